import PyProof.Rows.All
import Wide.All
import OpenK.AllK
import Wide.FinOn
import PyProof.EqAt
import PyProof.EqKinds
import PyProof.TupleCall
import HandS.ForMost
import HandS.ForExc
import HandS.Lambda
import HandS.TupAny
import HandS.TupMul
import HandS.Wide
import HandS.IsInst
import HandS.SortInts
import HandS.DictComp
import HandS.Zip
import HandS.Style
import HandS.SortRule
import HandS.Conv
import HandS.Codes
import HandS.DictTup
import KE.GoesEnum
import KE.GoesMore
import HandS.Iter
import HandS.Ends
import HandS.More
import HandS.Defaults
import HandS.Star
import HandS.Property
import HandS.SlotsOwn
import KE.KOpsOwn
import HandS.Flow
import HandS.ListItems
import KE.KItemsList
import KE.KEqNest
import KE.KUnpackStar
import HandS.SortKw
import KE.DataMinMax
import PyProof.RulesMatch
import HandS.ClsMeth
import HandS.DictSub
import HandS.ExcInit
import HandS.ExcField
import HandS.ExcIs
import HandS.ExcOwn
import KE.KExcInit
import HandS.EndBits
import HandS.EndTab
import KE.KNest
import HandS.SetFor
import KE.KExcIs
import PySem.Challenge.RW_forkecho_k37_what_is_no_table
set_option Elab.async false
set_option linter.all false
set_option maxRecDepth 100000
set_option maxHeartbeats 4000000
namespace DL
open PySem PySem.Spec L2
/-! ### data: values as trees; what may be changed is a ref -/
inductive D where
  | non | bl (b : Bool) | int (i : Int) | str (s : Str) | ref (a : Addr) | ty (n : String)
  | tup (xs : List D) | tpl (xs : List D) | lst (xs : List D) | lk (xs : List D) | ob (C : Addr) (fs : List (Str × D)) | xob (C : Addr) (fs : List (Str × D)) | lam (f c : Addr) (q : Str) (ρ : List (Option D)) (σ : List (Option V)) | dK (kvs : List (Key × D)) | dT (kvs : List (List Key × D))
/-- an object that may change -/
inductive AO where
  | lst (xs : List D) | dK (kvs : List (Key × D)) | dT (kvs : List (List Key × D)) | ins (C : Addr) (fs : List (Str × D)) | lck (xs : List D) | tab (q : Str)
abbrev AH := Addr → Option AO
def up (h : AH) (a : Addr) (o : AO) : AH := fun b => if b = a then some o else h b
@[simp] theorem up_same {h : AH} {a : Addr} {o : AO} : up h a o a = some o := by simp [up]
theorem up_ne {h : AH} {a b : Addr} {o : AO} (e : b ≠ a) : up h a o b = h b := by simp [up, e]
@[simp] theorem up_up {h : AH} {a : Addr} {o u : AO} : up (up h a o) a u = up h a u := by
  funext b; unfold up; split <;> rfl
/-- Sub g h: g is a part of h -/
def Sub (g h : AH) : Prop := ∀ a o, g a = some o → h a = some o
theorem Sub.refl (h : AH) : Sub h h := fun _ _ e => e
theorem Sub.trans {f g h : AH} (a : Sub f g) (b : Sub g h) : Sub f h := fun c o e => b c o (a c o e)
theorem sub_up {h : AH} {p : Addr} {o : AO} (e : h p = none) : Sub h (up h p o) := fun a u q => by
  rw [up_ne]; exact q
  rintro rfl; rw [e] at q; cases q
/-- an exception that is kept: its class, its dict -/
def exV (a C : Addr) (d : Option Addr) : HO := .ext fun h => ∃ (oe : Obj) (vs : Array Value), h.get? a = some oe ∧ Zc (.ref C) d oe ∧ oe.data = .fields vs
mutual
inductive Rep (K : PySem.W.Frag) (F : Hp) : D → V → Prop where
  | non : Rep K F .non .non
  | bl (b : Bool) : Rep K F (.bl b) (.bl b)
  | int (i : Int) : Rep K F (.int i) (.int i)
  | str (s : Str) : Rep K F (.str s) (.str s)
  | ref (a : Addr) : Rep K F (.ref a) (.ref a)
  | ty (n : String) : Rep K F (.ty n) (.ty n)
  | tup {a : Addr} {xs : List D} {vs : List V} (h : SqT K F a vs) (r : Reps K F xs vs) : Rep K F (.tup xs) (.ref a)
  | tpl {a : Addr} {ob : Obj} {xs : List D} {vs : List V} (h : F a = some (.frz ob (.tup vs))) (hd : ob.dict = none) (r : Reps K F xs vs) : Rep K F (.tpl xs) (.ref a)
  | lst {a : Addr} {xs : List D} {vs : List V} (h : F a = some (.lst vs)) (r : Reps K F xs vs) : Rep K F (.lst xs) (.ref a)
  | lk {a : Addr} {xs : List D} {vs : List V} (h : SqL K F a vs) (r : Reps K F xs vs) : Rep K F (.lk xs) (.ref a)
  | dK {a : Addr} {xs : List (Key × D)} {vs : List (Key × V)} (h : F a = some (.dK vs)) (r : RepK K F xs vs) : Rep K F (.dK xs) (.ref a)
  | dT {a : Addr} {xs : List (List Key × D)} {vs : List (List Key × V)} (h : F a = some (.dT vs)) (r : RepT K F xs vs) : Rep K F (.dT xs) (.ref a)
  | ob {a C : Addr} {dx : Addr} {xs : List (Str × D)} {vs : List (Str × V)} (h : F a = some (.ins C dx vs)) (r : RepF K F xs vs) : Rep K F (.ob C xs) (.ref a)
  | xob0 {a C : Addr} (h : F a = some (exV a C none)) : Rep K F (.xob C []) (.ref a)
  | xob {a C dx : Addr} {xs : List (Str × D)} {vs : List (Str × V)} (h : F a = some (exV a C (some dx))) (hd : F dx = some (.xd vs)) (r : RepF K F xs vs) : Rep K F (.xob C xs) (.ref a)
  | lam {f c : Addr} {q : Str} {ρ : List (Option D)} {σ : List (Option V)} (h : F c = some (LamX.CodeO c q)) (r : RepE K F ρ σ) : Rep K F (.lam f c q ρ σ) (.ref f)
inductive Reps (K : PySem.W.Frag) (F : Hp) : List D → List V → Prop where
  | nil : Reps K F [] []
  | cons {x : D} {v : V} {xs : List D} {vs : List V} (h : Rep K F x v) (t : Reps K F xs vs) : Reps K F (x :: xs) (v :: vs)
inductive RepK (K : PySem.W.Frag) (F : Hp) : List (Key × D) → List (Key × V) → Prop where
  | nil : RepK K F [] []
  | cons {k : Key} {x : D} {v : V} {xs : List (Key × D)} {vs : List (Key × V)} (h : Rep K F x v) (t : RepK K F xs vs) : RepK K F ((k, x) :: xs) ((k, v) :: vs)
inductive RepT (K : PySem.W.Frag) (F : Hp) : List (List Key × D) → List (List Key × V) → Prop where
  | nil : RepT K F [] []
  | cons {k : List Key} {x : D} {v : V} {xs : List (List Key × D)} {vs : List (List Key × V)} (h : Rep K F x v) (t : RepT K F xs vs) : RepT K F ((k, x) :: xs) ((k, v) :: vs)
inductive RepE (K : PySem.W.Frag) (F : Hp) : List (Option D) → List (Option V) → Prop where
  | nil : RepE K F [] []
  | none {ρ : List (Option D)} {σ : List (Option V)} {v : Option V} (t : RepE K F ρ σ) : RepE K F (none :: ρ) (v :: σ)
  | cons {d : D} {v : V} {ρ : List (Option D)} {σ : List (Option V)} (h : Rep K F d v) (t : RepE K F ρ σ) : RepE K F (some d :: ρ) (some v :: σ)
inductive RepF (K : PySem.W.Frag) (F : Hp) : List (Str × D) → List (Str × V) → Prop where
  | nil : RepF K F [] []
  | cons {k : Str} {x : D} {v : V} {xs : List (Str × D)} {vs : List (Str × V)} (h : Rep K F x v) (t : RepF K F xs vs) : RepF K F ((k, x) :: xs) ((k, v) :: vs)
end
def Ext (F F' : Hp) : Prop := ∀ a o, F a = some o → F' a = some o
theorem Ext.refl (F : Hp) : Ext F F := fun _ _ e => e
theorem Ext.trans {F G H : Hp} (a : Ext F G) (b : Ext G H) : Ext F H := fun c o e => b c o (a c o e)
theorem ext_upd {F : Hp} {p : Addr} {o : HO} (e : F p = none) : Ext F (upd F p o) := fun a u q => by
  rw [upd_ne]; exact q
  rintro rfl; rw [e] at q; cases q
theorem Ext.sqt {K : PySem.W.Frag} {F F' : Hp} {a : Addr} {vs : List V} (e : Ext F F') (h : SqT K F a vs) : SqT K F' a vs := by
  rcases h with (h | ⟨o, h⟩) | h
  · exact .inl (.inl (e _ _ h))
  · exact .inl (.inr ⟨o, e _ _ h⟩)
  · exact .inr h
theorem Ext.sql {K : PySem.W.Frag} {F F' : Hp} {a : Addr} {vs : List V} (e : Ext F F') (h : SqL K F a vs) : SqL K F' a vs := by
  rcases h with (h | ⟨o, h⟩) | h
  · exact .inl (.inl (e _ _ h))
  · exact .inl (.inr ⟨o, e _ _ h⟩)
  · exact .inr h
section
variable {K : PySem.W.Frag} {F F' : Hp}
mutual
theorem Rep.ext (e : Ext F F') : ∀ {x : D} {v : V}, Rep K F x v → Rep K F' x v
  | _, _, .non => .non
  | _, _, .bl b => .bl b
  | _, _, .int i => .int i
  | _, _, .str s => .str s
  | _, _, .ref a => .ref a
  | _, _, .ty n => .ty n
  | _, _, .tup h r => .tup (e.sqt h) (Reps.ext e r)
  | _, _, .tpl h hd r => .tpl (e _ _ h) hd (Reps.ext e r)
  | _, _, .lst h r => .lst (e _ _ h) (Reps.ext e r)
  | _, _, .lk h r => .lk (e.sql h) (Reps.ext e r)
  | _, _, .dK h r => .dK (e _ _ h) (RepK.ext e r)
  | _, _, .dT h r => .dT (e _ _ h) (RepT.ext e r)
  | _, _, .ob h r => .ob (e _ _ h) (RepF.ext e r)
  | _, _, .xob0 h => .xob0 (e _ _ h)
  | _, _, .xob h hd r => .xob (e _ _ h) (e _ _ hd) (RepF.ext e r)
  | _, _, .lam h r => .lam (e _ _ h) (RepE.ext e r)
theorem Reps.ext (e : Ext F F') : ∀ {xs : List D} {vs : List V}, Reps K F xs vs → Reps K F' xs vs
  | _, _, .nil => .nil
  | _, _, .cons h t => .cons (Rep.ext e h) (Reps.ext e t)
theorem RepK.ext (e : Ext F F') : ∀ {xs : List (Key × D)} {vs : List (Key × V)}, RepK K F xs vs → RepK K F' xs vs
  | _, _, .nil => .nil
  | _, _, .cons h t => .cons (Rep.ext e h) (RepK.ext e t)
theorem RepT.ext (e : Ext F F') : ∀ {xs : List (List Key × D)} {vs : List (List Key × V)}, RepT K F xs vs → RepT K F' xs vs
  | _, _, .nil => .nil
  | _, _, .cons h t => .cons (Rep.ext e h) (RepT.ext e t)
theorem RepE.ext (e : Ext F F') : ∀ {xs : List (Option D)} {vs : List (Option V)}, RepE K F xs vs → RepE K F' xs vs
  | _, _, .nil => .nil
  | _, _, .none t => .none (RepE.ext e t)
  | _, _, .cons h t => .cons (Rep.ext e h) (RepE.ext e t)
theorem RepF.ext (e : Ext F F') : ∀ {xs : List (Str × D)} {vs : List (Str × V)}, RepF K F xs vs → RepF K F' xs vs
  | _, _, .nil => .nil
  | _, _, .cons h t => .cons (Rep.ext e h) (RepF.ext e t)
end
theorem Reps.length : ∀ {xs : List D} {vs : List V}, Reps K F xs vs → xs.length = vs.length
  | _, _, .nil => rfl
  | _, _, .cons _ t => by simp [Reps.length t]
theorem Reps.append : ∀ {xs ys : List D} {vs ws : List V}, Reps K F xs vs → Reps K F ys ws → Reps K F (xs ++ ys) (vs ++ ws)
  | _, _, _, _, .nil, s => s
  | _, _, _, _, .cons h t, s => .cons h (Reps.append t s)
theorem Reps.get : ∀ {xs : List D} {vs : List V} {i : Nat} {x : D}, Reps K F xs vs → xs[i]? = some x → ∃ v, vs[i]? = some v ∧ Rep K F x v
  | _, _, _, _, .nil, e => by simp at e
  | _, _, 0, _, .cons h _, e => by simp at e; subst e; exact ⟨_, rfl, h⟩
  | _, _, i + 1, x, .cons _ t, e => by
    obtain ⟨v, h1, h2⟩ := Reps.get (i := i) (x := x) t (by simpa using e)
    exact ⟨v, by simpa using h1, h2⟩
theorem Reps.set {x : D} {v : V} (r : Rep K F x v) : ∀ {xs : List D} {vs : List V} (i : Nat), Reps K F xs vs → Reps K F (xs.set i x) (vs.set i v)
  | _, _, _, .nil => .nil
  | _, _, 0, .cons _ t => .cons r t
  | _, _, i + 1, .cons q t => .cons q (Reps.set r i t)
theorem Reps.take : ∀ {xs : List D} {vs : List V} (n : Nat), Reps K F xs vs → Reps K F (xs.take n) (vs.take n)
  | _, _, 0, _ => .nil
  | _, _, _ + 1, .nil => .nil
  | _, _, n + 1, .cons r t => .cons r (Reps.take n t)
theorem Reps.drop : ∀ {xs : List D} {vs : List V} (n : Nat), Reps K F xs vs → Reps K F (xs.drop n) (vs.drop n)
  | _, _, 0, r => r
  | _, _, _ + 1, .nil => .nil
  | _, _, n + 1, .cons _ t => Reps.drop n t
end
def RepO (K : PySem.W.Frag) (F : Hp) : AO → HO → Prop
  | .lst xs, u => ∃ vs, u = .lst vs ∧ Reps K F xs vs
  | .dK kvs, u => ∃ vs, u = .dK vs ∧ RepK K F kvs vs
  | .dT kvs, u => ∃ vs, u = .dT vs ∧ RepT K F kvs vs
  | .ins C fs, u => ∃ dx vs, u = .ins C dx vs ∧ RepF K F fs vs
  | .lck xs, u => ∃ o vs, u = .frz o (.lst vs) ∧ Reps K F xs vs
  | .tab q, u => ∃ ps : Array Value, u = .tbl ps ∧ TriplesOk ps.toList ∧ ∀ (pos : Pos) (cv : Value), codeAmong pos ps.toList = some cv → ∃ c, cv = .ref c ∧ F c = some (LamX.CodeO c q)
theorem RepO.ext {K : PySem.W.Frag} {F F' : Hp} (e : Ext F F') : ∀ {o : AO} {u : HO}, RepO K F o u → RepO K F' o u
  | .lst _, _, ⟨vs, a, r⟩ => ⟨vs, a, r.ext e⟩
  | .dK _, _, ⟨vs, a, r⟩ => ⟨vs, a, r.ext e⟩
  | .dT _, _, ⟨vs, a, r⟩ => ⟨vs, a, r.ext e⟩
  | .ins _ _, _, ⟨dx, vs, a, r⟩ => ⟨dx, vs, a, r.ext e⟩
  | .lck _, _, ⟨o, vs, a, r⟩ => ⟨o, vs, a, r.ext e⟩
  | .tab _, _, ⟨ps, a, t, r⟩ => ⟨ps, a, t, fun pos cv z => let ⟨c, e1, e2⟩ := r pos cv z; ⟨c, e1, e _ _ e2⟩⟩
structure Sim (K : PySem.W.Frag) (F : Hp) (h : AH) (H : Hp) : Prop where
  fz : ∀ a o, F a = some o → H a = some o
  ob : ∀ a o, h a = some o → F a = none ∧ ∃ u, H a = some u ∧ RepO K F o u
section
variable {K : PySem.W.Frag} {F : Hp} {h g : AH} {H : Hp} {p : Addr}
theorem Sim.sub (S : Sim K F h H) (s : Sub g h) : Sim K F g H := ⟨S.fz, fun a o e => S.ob a o (s a o e)⟩
theorem Sim.free (S : Sim K F h H) (e : H p = none) : F p = none ∧ h p = none := by
  refine ⟨?_, ?_⟩
  · cases q : F p with
    | none => rfl
    | some o => rw [S.fz _ _ q] at e; cases e
  · cases q : h p with
    | none => rfl
    | some o => obtain ⟨_, u, e', _⟩ := S.ob _ _ q; rw [e'] at e; cases e
/-- a new object, never to change -/
theorem Sim.newF (S : Sim K F h H) (e : H p = none) (u : HO) : Sim K (upd F p u) h (upd H p u) := by
  obtain ⟨e1, e2⟩ := S.free e
  refine ⟨fun a o q => ?_, fun a o q => ?_⟩
  · by_cases c : a = p
    · subst c; rw [upd_same] at q ⊢; exact q
    · rw [upd_ne c] at q ⊢; exact S.fz _ _ q
  · have c : a ≠ p := by rintro rfl; rw [e2] at q; cases q
    obtain ⟨f, w, hw, r⟩ := S.ob _ _ q
    rw [upd_ne c, upd_ne c]
    exact ⟨f, w, hw, r.ext (ext_upd e1)⟩
/-- a new object that may change -/
theorem Sim.newM (S : Sim K F h H) (e : H p = none) {o : AO} {u : HO} (r : RepO K F o u) : Sim K F (up h p o) (upd H p u) := by
  obtain ⟨e1, e2⟩ := S.free e
  refine ⟨fun a v q => ?_, fun a v q => ?_⟩
  · have c : a ≠ p := by rintro rfl; rw [e1] at q; cases q
    rw [upd_ne c]; exact S.fz _ _ q
  · by_cases c : a = p
    · subst c; rw [up_same] at q; cases q; exact ⟨e1, u, upd_same, r⟩
    · rw [up_ne c] at q; rw [upd_ne c]; exact S.ob _ _ q
/-- an object changes -/
theorem Sim.put (S : Sim K F h H) {o0 : AO} (e : h p = some o0) {o : AO} {u : HO} (r : RepO K F o u) : Sim K F (up h p o) (upd H p u) := by
  obtain ⟨e1, _⟩ := S.ob _ _ e
  refine ⟨fun a v q => ?_, fun a v q => ?_⟩
  · have c : a ≠ p := by rintro rfl; rw [e1] at q; cases q
    rw [upd_ne c]; exact S.fz _ _ q
  · by_cases c : a = p
    · subst c; rw [up_same] at q; cases q; exact ⟨e1, u, upd_same, r⟩
    · rw [up_ne c] at q; rw [upd_ne c]; exact S.ob _ _ q
end
abbrev EnvD := List (Option D)
def EnvR (K : PySem.W.Frag) (F : Hp) (ρ : EnvD) (σ : St) : Prop := σ.length = ρ.length ∧ ∀ (i : Nat) d, ρ[i]? = some (some d) → ∃ v, σ[i]? = some (some v) ∧ Rep K F d v
theorem EnvR.ext {K : PySem.W.Frag} {F F' : Hp} (e : Ext F F') {ρ : EnvD} {σ : St} (r : EnvR K F ρ σ) : EnvR K F' ρ σ :=
  ⟨r.1, fun i d h => let ⟨v, a, b⟩ := r.2 i d h; ⟨v, a, b.ext e⟩⟩
theorem EnvR.set {K : PySem.W.Frag} {F : Hp} {ρ : EnvD} {σ : St} (r : EnvR K F ρ σ) {d : D} {v : V} (q : Rep K F d v) (i : Nat) : EnvR K F (ρ.set i (some d)) (σ.set i (some v)) := by
  refine ⟨by simp [r.1], fun j x e => ?_⟩
  by_cases c : i = j
  · subst c
    by_cases l : i < ρ.length
    · rw [List.getElem?_set_self l] at e; cases e
      exact ⟨v, List.getElem?_set_self (by rw [r.1]; exact l), q⟩
    · rw [List.getElem?_eq_none (by simpa using l)] at e; cases e
  · rw [List.getElem?_set_ne c] at e ⊢
    exact r.2 j x e
theorem RepE.env {K : PySem.W.Frag} {F : Hp} : ∀ {ρ : EnvD} {σ : St}, RepE K F ρ σ → EnvR K F ρ σ
  | _, _, .nil => ⟨rfl, fun i d h => by simp at h⟩
  | _, _, .none t => by
    obtain ⟨l, h⟩ := RepE.env t
    refine ⟨by simp [l], fun i d e => ?_⟩
    cases i with
    | zero => simp at e
    | succ i => simpa using h i d (by simpa using e)
  | _, _, .cons (v := v) r t => by
    obtain ⟨l, h⟩ := RepE.env t
    refine ⟨by simp [l], fun i d e => ?_⟩
    cases i with
    | zero =>
      obtain rfl := Option.some.inj (Option.some.inj (by simpa using e))
      exact ⟨v, by simp, r⟩
    | succ i => simpa using h i d (by simpa using e)
theorem EnvR.rep {K : PySem.W.Frag} {F : Hp} : ∀ {ρ : EnvD} {σ : St}, EnvR K F ρ σ → RepE K F ρ σ
  | [], σ, ⟨l, _⟩ => by
    cases σ with
    | nil => exact .nil
    | cons _ _ => cases l
  | x :: ρ, σ, ⟨l, h⟩ => by
    cases σ with
    | nil => cases l
    | cons v σ =>
      have t : RepE K F ρ σ := EnvR.rep ⟨by simpa using l, fun i d e => by simpa using h (i + 1) d (by simpa using e)⟩
      cases x with
      | none => exact .none t
      | some d =>
        obtain ⟨v', e, r⟩ := h 0 d (by simp)
        obtain rfl : v = some v' := by simpa using e
        exact .cons r t
/-! ### exceptions -/
inductive DX where
  | own (C : Addr) (fs : List (Str × D)) | blt (n : String)
def RepX (K : PySem.W.Frag) (F H : Hp) : DX → Value → Option Addr → Prop
  | .own C fs, cls, d => cls = .ref C ∧ ((fs = [] ∧ d = none) ∨ ∃ dd vs, d = some dd ∧ H dd = some (.xd vs) ∧ RepF K F fs vs)
  | .blt n, cls, _ => cls = .type n
abbrev KD := D → AH → Prop
abbrev KX := DX → AH → Prop
abbrev WE := EnvD → AH → KD → KX → Prop
abbrev WT := EnvD → AH → (Bool → AH → Prop) → KX → Prop
abbrev WA := EnvD → AH → (List D → AH → Prop) → KX → Prop
structure EndsD where
  nx : EnvD → AH → Prop
  rt : KD
  bk : EnvD → AH → Prop := fun _ _ => False
  ct : EnvD → AH → Prop := fun _ _ => False
  ex : KX
abbrev WS := EndsD → EnvD → AH → Prop
/-! ### the lifts -/
def LQ (K : PySem.W.Frag) (F : Hp) (Q : VK) : KD := fun d h' => ∀ F' H' v, Ext F F' → Sim K F' h' H' → Rep K F' d v → Q v H'
def LB (K : PySem.W.Frag) (F : Hp) (Q : Bool → Hp → Prop) : Bool → AH → Prop := fun b h' => ∀ F' H', Ext F F' → Sim K F' h' H' → Q b H'
def LA (K : PySem.W.Frag) (F : Hp) (Q : List V → Hp → Prop) : List D → AH → Prop := fun ds h' => ∀ F' H' vs, Ext F F' → Sim K F' h' H' → Reps K F' ds vs → Q vs H'
def LS (K : PySem.W.Frag) (F : Hp) (Q : St → Hp → Prop) : EnvD → AH → Prop := fun ρ' h' => ∀ F' H' σ', Ext F F' → Sim K F' h' H' → EnvR K F' ρ' σ' → Q σ' H'
def LX (K : PySem.W.Frag) (F : Hp) (E : XK) : KX := fun x h' => ∀ F' H' cls d, Ext F F' → Sim K F' h' H' → RepX K F' H' x cls d → E cls d H'
def LD (K : PySem.W.Frag) (F : Hp) (D : Ends) (E : XK) : EndsD := { nx := LS K F D.nx, rt := LQ K F D.rt, bk := LS K F D.bk, ct := LS K F D.ct, ex := LX K F E }
section
variable {K : PySem.W.Frag} {F F' : Hp}
theorem LQ.ext (e : Ext F F') {Q : VK} {d : D} {h : AH} (q : LQ K F Q d h) : LQ K F' Q d h := fun G H v a b c => q G H v (e.trans a) b c
theorem LB.ext (e : Ext F F') {Q : Bool → Hp → Prop} {d : Bool} {h : AH} (q : LB K F Q d h) : LB K F' Q d h := fun G H a b => q G H (e.trans a) b
theorem LA.ext (e : Ext F F') {Q : List V → Hp → Prop} {d : List D} {h : AH} (q : LA K F Q d h) : LA K F' Q d h := fun G H v a b c => q G H v (e.trans a) b c
theorem LS.ext (e : Ext F F') {Q : St → Hp → Prop} {d : EnvD} {h : AH} (q : LS K F Q d h) : LS K F' Q d h := fun G H v a b c => q G H v (e.trans a) b c
theorem LX.ext (e : Ext F F') {E : XK} {d : DX} {h : AH} (q : LX K F E d h) : LX K F' E d h := fun G H v w a b c => q G H v w (e.trans a) b c
end
def tE (K : PySem.W.Frag) (E : XK) (w : WE) : TE := fun σ H Q => ∃ F ρ h, Sim K F h H ∧ EnvR K F ρ σ ∧ w ρ h (LQ K F Q) (LX K F E)
def tT (K : PySem.W.Frag) (E : XK) (w : WT) : TT := fun σ H Q => ∃ F ρ h, Sim K F h H ∧ EnvR K F ρ σ ∧ w ρ h (LB K F Q) (LX K F E)
def tA (K : PySem.W.Frag) (E : XK) (w : WA) : TA := fun σ H Q => ∃ F ρ h, Sim K F h H ∧ EnvR K F ρ σ ∧ w ρ h (LA K F Q) (LX K F E)
def tS (K : PySem.W.Frag) (E : XK) (w : WS) : TS := fun D σ H => ∃ F ρ h, Sim K F h H ∧ EnvR K F ρ σ ∧ w (LD K F D E) ρ h
structure EndsD.Le (D D' : EndsD) : Prop where
  nx : ∀ ρ h, D.nx ρ h → D'.nx ρ h
  rt : ∀ d h, D.rt d h → D'.rt d h
  bk : ∀ ρ h, D.bk ρ h → D'.bk ρ h
  ct : ∀ ρ h, D.ct ρ h → D'.ct ρ h
  ex : ∀ x h, D.ex x h → D'.ex x h
theorem LD.ext {K : PySem.W.Frag} {F F' : Hp} (e : Ext F F') {D : Ends} {E : XK} : (LD K F D E).Le (LD K F' D E) :=
  ⟨fun _ _ q => LS.ext e q, fun _ _ q => LQ.ext e q, fun _ _ q => LS.ext e q, fun _ _ q => LS.ext e q, fun _ _ q => LX.ext e q⟩
theorem EndsD.Le.refl (D : EndsD) : D.Le D := ⟨fun _ _ q => q, fun _ _ q => q, fun _ _ q => q, fun _ _ q => q, fun _ _ q => q⟩
/-- monotone -/
def MoE (w : WE) : Prop := ∀ ρ h Q Q' X X', (∀ d h, Q d h → Q' d h) → (∀ x h, X x h → X' x h) → w ρ h Q X → w ρ h Q' X'
def MoT (w : WT) : Prop := ∀ ρ h Q Q' X X', (∀ d h, Q d h → Q' d h) → (∀ x h, X x h → X' x h) → w ρ h Q X → w ρ h Q' X'
def MoA (w : WA) : Prop := ∀ ρ h Q Q' X X', (∀ d h, Q d h → Q' d h) → (∀ x h, X x h → X' x h) → w ρ h Q X → w ρ h Q' X'
def MoS (w : WS) : Prop := ∀ D D' ρ h, D.Le D' → w D ρ h → w D' ρ h
/-! ### the judgements -/
structure AE (X : Cx) (E : XK) (e : Expr) (w : WE) : Prop where
  run : PE X e (tE X.K E w)
  mo : MoE w
structure AT (X : Cx) (E : XK) (e : Expr) (w : WT) : Prop where
  run : PT X e (tT X.K E w)
  mo : MoT w
structure AW (X : Cx) (E : XK) (e : Expr) (w : WT) : Prop where
  run : PW X e (tT X.K E w)
  mo : MoT w
structure AA (X : Cx) (E : XK) (es : List Expr) (w : WA) : Prop where
  run : PA X es (tA X.K E w)
  mo : MoA w
structure AS (X : Cx) (E : XK) (st : Stmt) (w : WS) : Prop where
  run : PS X st (tS X.K E w)
  mo : MoS w
structure ASs (X : Cx) (E : XK) (sts : List Stmt) (w : WS) : Prop where
  run : PSs X sts (tS X.K E w)
  mo : MoS w
theorem PE.imp {X : Cx} {e : Expr} {t t' : TE} (p : PE X e t) (h : ∀ σ H Q, t' σ H Q → t σ H Q) : PE X e t' := ⟨fun pins s σ H Q I q => p.run pins s σ H Q I (h _ _ _ q)⟩
theorem PT.imp {X : Cx} {e : Expr} {t t' : TT} (p : PT X e t) (h : ∀ σ H Q, t' σ H Q → t σ H Q) : PT X e t' := ⟨fun pins s σ H Q I q => p.run pins s σ H Q I (h _ _ _ q)⟩
theorem PW.imp {X : Cx} {e : Expr} {t t' : TT} (p : PW X e t) (h : ∀ σ H Q, t' σ H Q → t σ H Q) : PW X e t' := ⟨fun wh pins s σ H Q I q => p.run wh pins s σ H Q I (h _ _ _ q)⟩
theorem PA.imp {X : Cx} {e : List Expr} {t t' : TA} (p : PA X e t) (h : ∀ σ H Q, t' σ H Q → t σ H Q) : PA X e t' := ⟨fun pos pins s σ H Q I q => p.run pos pins s σ H Q I (h _ _ _ q)⟩
theorem PS.imp {X : Cx} {e : Stmt} {t t' : TS} (p : PS X e t) (h : ∀ D σ H, t' D σ H → t D σ H) : PS X e t' := ⟨fun pins s σ H Q I q => p.run pins s σ H Q I (h _ _ _ q)⟩
theorem PSs.imp {X : Cx} {e : List Stmt} {t t' : TS} (p : PSs X e t) (h : ∀ D σ H, t' D σ H → t D σ H) : PSs X e t' := ⟨fun pins s σ H Q I q => p.run pins s σ H Q I (h _ _ _ q)⟩
end DL
namespace DL
open PySem PySem.Spec L2
/-! ### a def's promise over data -/
abbrev FSpec := List D → AH → KD → KX → Prop
def MoF (S : FSpec) : Prop := ∀ ds h Q Q' X X', (∀ d h, Q d h → Q' d h) → (∀ x h, X x h → X' x h) → S ds h Q X → S ds h Q' X'
def spD (K : PySem.W.Frag) (S : FSpec) : Sp := fun vs H Q E => ∃ F ds h, Sim K F h H ∧ Reps K F ds vs ∧ S ds h (LQ K F Q) (LX K F E)
/-- what is asked around a piece of code -/
structure Cg (gz : Bool) (X : Cx) (E : XK) (k : Nat) : Prop where
  room : Room k X.A
  gd : gz = true → X.A.guards = some []
  calm : X.calm = true
  nd : X.N.Nodup
  ps : Passes (L2.CX X.prog X.w) X E
  po : PassesOwn (model X.prog X.w) X.A X.env X.xe
theorem Cg.mono {gz : Bool} {X : Cx} {E : XK} {j k : Nat} (c : Cg gz X E k) (h : j ≤ k) : Cg gz X E j := ⟨c.room.mono h, c.gd, c.calm, c.nd, c.ps, c.po⟩
/-- a def at f keeps its promise: ahead of it no guard runs -/
structure FnG (gz : Bool) (P : Program) (w : World) (K : PySem.W.Frag) (mg : Str → Option Value) (base : Heap) (k : Nat) (f : Addr) (fd : FuncData) (ps : List Str) (S : FSpec) : Prop where
  len : ∀ ds h Q X, S ds h Q X → ds.length = ps.length
  mo : MoF S
  run : ∀ {A : Around} {outer : List Env} {s : Shared} {H : Hp} {args : Args} {us : List Value} {vs : List V} {Q : VK} {E : XK},
    Room k A → (gz = true → A.guards = some []) → Env0 P w K mg base A outer s H → BindsTo s fd args (ps.zip us) → Vals vs us → spD K S vs H Q E →
    codeAny (model P w) A (.call (.ref f) args) (CR (L2.CX P w) outer P w H s Q E) s
theorem FnG.mono {gz : Bool} {P : Program} {w : World} {K : PySem.W.Frag} {mg : Str → Option Value} {base : Heap} {j k : Nat} {f : Addr} {fd : FuncData} {ps : List Str} {S : FSpec}
    (G : FnG gz P w K mg base j f fd ps S) (h : j ≤ k) : FnG gz P w K mg base k f fd ps S :=
  ⟨G.len, G.mo, fun r g e b v q => G.run (r.mono h) g e b v q⟩
theorem spD_len {K : PySem.W.Frag} {S : FSpec} {n : Nat} (l : ∀ ds h Q X, S ds h Q X → ds.length = n) {vs : List V} {H : Hp} {Q : VK} {E : XK} (h : spD K S vs H Q E) : vs.length = n := by
  obtain ⟨F, ds, g, _, r, q⟩ := h
  rw [← r.length]; exact l _ _ _ _ q
/-! ### from a body to the promise -/
/-- what may be told of a result: parts are dropped, a list that stands alone is frozen -/
inductive Fz : D → AH → D → AH → Prop where
  | sub {d : D} {h g : AH} : Sub g h → Fz d h d g
  | lst {a : Addr} {xs : List D} {h g : AH} : h a = some (.lst xs) → g a = none → Sub g h → Fz (.ref a) h (.lst xs) g
  | dK {a : Addr} {xs : List (Key × D)} {h g : AH} : h a = some (.dK xs) → g a = none → Sub g h → Fz (.ref a) h (.dK xs) g
  | dT {a : Addr} {xs : List (List Key × D)} {h g : AH} : h a = some (.dT xs) → g a = none → Sub g h → Fz (.ref a) h (.dT xs) g
  | tup1 {a : Addr} {xs ys : List D} {h g : AH} : h a = some (.lst xs) → g a = none → Sub g h → Fz (.tup (.ref a :: ys)) h (.tup (.lst xs :: ys)) g
def fin (Q : KD) : KD := fun d h => ∃ d' g, Fz d h d' g ∧ Q d' g
theorem fin_of {Q : KD} {d : D} {h : AH} (q : Q d h) : fin Q d h := ⟨d, h, .sub (.refl h), q⟩
theorem fin_sub {Q : KD} {d : D} {h g : AH} (s : Sub g h) (q : Q d g) : fin Q d h := ⟨d, g, .sub s, q⟩
theorem fin_lst {Q : KD} {h : AH} {p : Addr} {xs : List D} (e : h p = none) (q : Q (.lst xs) h) : fin Q (.ref p) (up h p (.lst xs)) := ⟨_, h, .lst up_same e (sub_up e), q⟩
/-- a list among the changing ones is made one that does not change -/
theorem Sim.frz {K : PySem.W.Frag} {F : Hp} {h g : AH} {H : Hp} {a : Addr} {o : AO} {u : HO} (S : Sim K F h H) (e : h a = some o) (eu : H a = some u) (n : g a = none) (s : Sub g h) : Ext F (upd F a u) ∧ Sim K (upd F a u) g H := by
  obtain ⟨f, _⟩ := S.ob _ _ e
  refine ⟨ext_upd f, fun b v q => ?_, fun b v q => ?_⟩
  · by_cases c : b = a
    · subst c; rw [upd_same] at q; cases q; exact eu
    · rw [upd_ne c] at q; exact S.fz _ _ q
  · have c : b ≠ a := by rintro rfl; rw [n] at q; cases q
    obtain ⟨f1, w, hw, r⟩ := S.ob _ _ (s _ _ q)
    exact ⟨by rw [upd_ne c]; exact f1, w, hw, r.ext (ext_upd f)⟩
theorem LQ.fin {K : PySem.W.Frag} {F : Hp} {Q : VK} {d : D} {h : AH} (q : fin (LQ K F Q) d h) : LQ K F Q d h := by
  intro F' H' v e S r
  obtain ⟨d', g, z, q⟩ := q
  cases z with
  | sub s => exact q F' H' v e (S.sub s) r
  | @lst a xs _ _ ha hg s =>
    cases r
    obtain ⟨f, u, hu, vs, rfl, rs⟩ := S.ob _ _ ha
    obtain ⟨e2, S2⟩ := S.frz ha hu hg s
    exact q _ _ _ (e.trans e2) S2 (.lst upd_same (rs.ext e2))
  | @dK a xs _ _ ha hg s =>
    cases r
    obtain ⟨f, u, hu, vs, rfl, rs⟩ := S.ob _ _ ha
    obtain ⟨e2, S2⟩ := S.frz ha hu hg s
    exact q _ _ _ (e.trans e2) S2 (.dK upd_same (rs.ext e2))
  | @dT a xs _ _ ha hg s =>
    cases r
    obtain ⟨f, u, hu, vs, rfl, rs⟩ := S.ob _ _ ha
    obtain ⟨e2, S2⟩ := S.frz ha hu hg s
    exact q _ _ _ (e.trans e2) S2 (.dT upd_same (rs.ext e2))
  | @tup1 a xs ys _ _ ha hg s =>
    cases r with
    | tup hq rr =>
      cases rr with
      | cons r1 rt =>
        cases r1
        obtain ⟨f, u, hu, vs, rfl, rs⟩ := S.ob _ _ ha
        obtain ⟨e2, S2⟩ := S.frz ha hu hg s
        exact q _ _ _ (e.trans e2) S2 (.tup (e2.sqt hq) (.cons (.lst upd_same (rs.ext e2)) (rt.ext e2)))
def startD (n : Nat) (ds : List D) : EnvD := ds.map some ++ List.replicate (n - ds.length) none
def endsD (Q : KD) (X : KX) : EndsD := { nx := fun _ h => fin Q .non h, rt := fin Q, ex := X }
theorem start_env {K : PySem.W.Frag} {F : Hp} {N : List Str} {ds : List D} {vs : List V} (r : Reps K F ds vs) : EnvR K F (startD N.length ds) (L2.start N vs) := by
  have l := r.length
  refine ⟨by simp [startD, L2.start, l], fun i d e => ?_⟩
  unfold startD at e
  by_cases c : i < ds.length
  · rw [List.getElem?_append_left (by simpa using c), List.getElem?_map] at e
    cases q : ds[i]? with
    | none => rw [q] at e; cases e
    | some x =>
      rw [q] at e; cases e
      obtain ⟨v, h1, h2⟩ := r.get q
      refine ⟨v, ?_, h2⟩
      unfold L2.start
      rw [List.getElem?_append_left (by rw [List.length_map, ← l]; exact c), List.getElem?_map, h1]
      rfl
  · rw [List.getElem?_append_right (by simpa using c), List.getElem?_replicate] at e
    split at e <;> cases e
section
variable {P : Program} {w : World} {K : PySem.W.Frag} {mg : Str → Option Value} {base : Heap}
/-- THE RULE for a def: its body as a term of rules, and what it computes over data -/
theorem fng_of {gz : Bool} {x qual : Str} {st : Stmt} {f : Addr} {fd : FuncData} {N ps : List Str} {k : Nat} {S : FSpec} {W : WS}
    (F : Fun K x qual st f fd) (sc : FnScope N ps (defScope st)) (len : ∀ ds h Q X, S ds h Q X → ds.length = ps.length) (mo : MoF S)
    (body : ∀ (cdv : Value) (A : Around) (outer : List PySem.Env) (s : Shared) (H : Hp) (E : XK), Cg gz (cxOf (L2.CX P w) P w K mg base N qual (defScope st) f cdv A outer s H E) E k →
      ASs (cxOf (L2.CX P w) P w K mg base N qual (defScope st) f cdv A outer s H E) E (defBody st) W)
    (pure : ∀ ds h Q X, S ds h Q X → W (endsD Q X) (startD N.length ds) h) : FnG gz P w K mg base (k + 1) f fd ps S := by
  refine ⟨len, mo, fun {A outer s H args us vs Q E} hr hg e0 hb hv hs => ?_⟩
  obtain ⟨oc, od, kV, doc, pm, an, cdv, ct, osl, rfl, lk, hcd⟩ := F.ex
  have lenv := spD_len len hs
  have inK : K.In s.heap := e0.mod.kin.keeps fun b o e =>
    (e0.bs b o e).1
  have nol : s.heap.NoLimit := e0.mod.nolimit.keeps fun b o e =>
    (e0.bs b o e).1
  have kinds : ∀ y ∈ ps.zip us, (defScope st).names.lookup y.1 = some .local ∨
      ((defScope st).names.lookup y.1 = some .cell ∧ ((cellsFrom (s.heap.objs.size + 1) (defScope st).names []).lookup y.1).isSome = true) := by
    rintro ⟨n, v⟩ hy
    cases sc.par n (List.of_mem_zip hy).1 with
    | inl q => exact .inl q
    | inr q => exact .inr ⟨q, PySem.W.cellsFrom_some _ _ _ (.inl q)⟩
  refine codeAny_call_function hr.depth (inK _ _ lk) rfl
    sc.co sc.gen rfl (PySem.W.codeRec_of inK hcd) (hb _ _ _ _ ?_)
  refine wpAny_newFunctionEnv_cells sc.kind kinds
    fun env he s1 ic => ?_
  subst he
  refine ⟨nol.keeps ic.toInCall.keep,
    codeAny_func ?_⟩
  have I := inv_start (CX := L2.CX P w) (P := P) (w := w) (mg := mg) (base := base) (E := E) sc hr.hd e0 lenv hv ic
  have c : Cg gz (cxOf (L2.CX P w) P w K mg base N qual (defScope st) f cdv A outer s H E) E k :=
    ⟨hr.deeper _, hg, rfl, sc.nd, passes_call (takes_of rfl rfl rfl rfl) fun _ _ _ _ z => z, passes_of rfl⟩
  obtain ⟨F0, ds, g, S0, r0, q0⟩ := hs
  have B := body cdv A outer s H E c
  have go : tS K E W { nx := fun _ H' => Q .non H', rt := Q } (L2.start N vs) H := by
    refine ⟨F0, _, g, S0, start_env r0, B.mo (endsD (LQ K F0 Q) (LX K F0 E)) _ _ _ ⟨fun ρ h z => ?_, fun d h z => LQ.fin z, fun _ _ z => False.elim z, fun _ _ z => False.elim z, fun _ _ z => z⟩ (pure ds g _ _ q0)⟩
    exact fun F' H' σ' e S' _ => LQ.fin z F' H' .non e S' .non
  refine wpAny_mono (B.run.run [] s1 _ H _ I go) (fun fl s' hq => ?_) fun e s' hq => hq
  cases fl with
  | ret u =>
    obtain ⟨v, σ', H', J, rv, q⟩ := hq
    exact ⟨v, H', J.os, J.bare, J.base, J.hok, rv, q⟩
  | next =>
    obtain ⟨σ', H', J, q⟩ := hq
    exact ⟨.non, H', J.os, J.bare, J.base, J.hok, rfl, q⟩
  | brk => obtain ⟨_, _, _, q⟩ := hq; exact q.elim
  | cont => obtain ⟨_, _, _, q⟩ := hq; exact q.elim
end
/-! ### calls -/
/-- how n positional values and the keywords' values (names ks) come to the parameters -/
structure Bnd (K : PySem.W.Frag) (fd : FuncData) (ps : List Str) (n : Nat) (ks : List Str) (g : List D → List D → List D) : Prop where
  to : ∀ (s : Shared) (F : Hp) (ds zs : List D) (vs ys : List V) (us ws : List Value), K.In s.heap → ds.length = n → zs.length = ks.length →
    Reps K F ds vs → Vals vs us → Reps K F zs ys → Vals ys ws → ∃ xs ts, Reps K F (g ds zs) xs ∧ Vals xs ts ∧ BindsTo s fd ⟨us, ks.zip ws⟩ (ps.zip ts)
theorem Bnd.plain {K : PySem.W.Frag} {fd : FuncData} {ps : List Str} (h : ∀ us : List Value, us.length = ps.length → bindArgs fd ⟨us, []⟩ = pure (ps.zip us)) : Bnd K fd ps ps.length [] (fun ds _ => ds) := by
  refine ⟨fun s F ds zs vs ys us ws X l1 l2 r1 r2 r3 r4 => ⟨vs, us, r1, r2, ?_⟩⟩
  have l : us.length = ps.length := by rw [← r2.length, ← r1.length]; exact l1
  cases zs with
  | cons _ _ => cases l2
  | nil => cases r3; cases r4; exact .of_eq (h us l)
/-- a def that a name of the module holds -/
structure Cal (gz : Bool) (P : Program) (w : World) (K : PySem.W.Frag) (mg : Str → Option Value) (base : Heap) (x : Str) (k n : Nat) (ks : List Str) (g : List D → List D → List D) (S : FSpec) : Prop where
  ex : ∃ f fd ps, mg x = some (.ref f) ∧ PySem.W.keepIn K (.ref f) = true ∧ FnG gz P w K mg base k f fd ps S ∧ Bnd K fd ps n ks g
section
variable {X : Cx} {E : XK} {k n : Nat} {ks : List Str} {g : List D → List D → List D} {S : FSpec} {x : Str} {p pos : Pos} {e : Expr} {es : List Expr} {wa wk : WA}
theorem run_g {gz gy : Bool} {pins : List (Addr × Obj)} {σ : L2.St} {H : Hp} {s : Shared} {Q : VK} {f : Addr} {fd : FuncData} {ps : List Str} {args : Args} {us : List Value} {vs : List V} (c : Cg gz X E k)
    (G : FnG gy X.prog X.w X.K X.mg X.base k f fd ps S) (hz : gy = true → gz = true) (I : Inv X pins σ H s) (hb : BindsTo s fd args (ps.zip us)) (r : Vals vs us) (h : spD X.K S vs H Q E) :
    codeAny (model X.prog X.w) X.A (.call (.ref f) args) (fun r s' => match r with | .ok (.ret u) => EP X pins σ Q u s' | .ok _ => False | .error e => X.xe e s') s := by
  refine codeAny_mono (G.run c.room (fun z => c.gd (hz z)) I.env0 hb r h) fun r s' hq => ?_
  match r, hq with
  | .error e, hq => exact c.ps pins σ H s e s' I hq
  | .ok (.ret u), hq => exact I.after hq
  | .ok .next, hq => exact hq.elim
  | .ok .brk, hq => exact hq.elim
  | .ok .cont, hq => exact hq.elim
end
/-- f(..): n positional values, keywords -/
def wCall (S : FSpec) (n m : Nat) (g : List D → List D → List D) (wa wk : WA) : WE := fun ρ h Q X => wa ρ h (fun ds h1 => wk ρ h1 (fun zs h2 => ds.length = n ∧ zs.length = m ∧ S (g ds zs) h2 Q X) X) X
end DL
namespace DL
open PySem PySem.Spec L2
/-! ### data as the library's own data -/
mutual
def pd : D → PyData
  | .non => .none
  | .bl b => .bool b
  | .int i => .int i
  | .str s => .str s
  | .tup xs => .tuple (pds xs)
  | .tpl xs => .tuple (pds xs)
  | .lst xs => .list (pds xs)
  | .ref _ => .none
  | .ty _ => .none
  | .lk _ => .none
  | .ob _ _ => .none
  | .xob _ _ => .none
  | .lam _ _ _ _ _ => .none
  | .dK _ => .none
  | .dT _ => .none
def pds : List D → List PyData
  | [] => []
  | x :: xs => pd x :: pds xs
end
mutual
def dat : D → Bool
  | .non => true
  | .bl _ => true
  | .int _ => true
  | .str _ => true
  | .tup xs => dats xs
  | .tpl xs => dats xs
  | .lst xs => dats xs
  | .ref _ => false
  | .ty _ => false
  | .lk _ => false
  | .ob _ _ => false
  | .xob _ _ => false
  | .lam _ _ _ _ _ => false
  | .dK _ => false
  | .dT _ => false
def dats : List D → Bool
  | [] => true
  | x :: xs => dat x && dats xs
end
theorem pds_map : ∀ xs : List D, pds xs = xs.map pd
  | [] => rfl
  | x :: xs => by rw [pds, pds_map xs]; rfl
/-- a list or dict that may change, as it stands now -/
def cur (h : AH) : D → D
  | .ref a => match h a with
    | some (.lst xs) => .lst xs
    | some (.dK kvs) => .dK kvs
    | some (.dT kvs) => .dT kvs
    | _ => .ref a
  | d => d
section
variable {K : PySem.W.Frag} {F H : Hp}
theorem sqt_of {a : Addr} {vs : List V} (e : ∀ a o, F a = some o → H a = some o) (h : SqT K F a vs) : SqT K H a vs := Ext.sqt e h
mutual
theorem Rep.dp (e : ∀ a o, F a = some o → H a = some o) : ∀ {d : D} {v : V}, Rep K F d v → dat d = true → Dp K H v (pd d)
  | _, _, .non, _ => by rw [pd]; exact .non
  | _, _, .bl b, _ => by rw [pd]; exact .bl b
  | _, _, .int i, _ => by rw [pd]; exact .int i
  | _, _, .str s, _ => by rw [pd]; exact .str s
  | _, _, .ref a, h => by rw [dat] at h; cases h
  | _, _, .ty n, h => by rw [dat] at h; cases h
  | _, _, .lk _ _, h => by rw [dat] at h; cases h
  | _, _, .ob _ _, h => by rw [dat] at h; cases h
  | _, _, .dK _ _, h => by rw [dat] at h; cases h
  | _, _, .dT _ _, h => by rw [dat] at h; cases h
  | _, _, .tup h r, q => by rw [dat] at q; rw [pd]; exact .tup (sqt_of e h) (Reps.dp e r q)
  | _, _, .tpl h hd r, q => by rw [dat] at q; rw [pd]; exact .tup (sqt_of e (.inl (.inr ⟨_, h⟩))) (Reps.dp e r q)
  | _, _, .lst h r, q => by rw [dat] at q; rw [pd]; exact .lst (.of (e _ _ h)) (Reps.dp e r q)
theorem Reps.dp (e : ∀ a o, F a = some o → H a = some o) : ∀ {ds : List D} {vs : List V}, Reps K F ds vs → dats ds = true → DpAll K H vs (pds ds)
  | _, _, .nil, _ => by rw [pds]; exact .nil
  | _, _, .cons h t, q => by
    rw [dats, Bool.and_eq_true] at q
    rw [pds]; exact .cons (Rep.dp e h q.1) (Reps.dp e t q.2)
end
theorem Sim.curDp {h : AH} (S : Sim K F h H) {d : D} {v : V} (r : Rep K F d v) (q : dat (cur h d) = true) : Dp K H v (pd (cur h d)) := by
  have base : ∀ {d : D} {v : V}, Rep K F d v → dat d = true → Dp K H v (pd d) := fun r q => r.dp S.fz q
  cases r with
  | ref a =>
    cases e : h a with
    | none => simp [cur, e, dat] at q
    | some o =>
      cases o with
      | lst xs =>
        obtain ⟨_, u, hu, vs, rfl, rs⟩ := S.ob _ _ e
        simp only [cur, e, dat] at q
        simp only [cur, e, pd]
        exact .lst (.of hu) (rs.dp S.fz q)
      | dK _ => simp [cur, e, dat] at q
      | dT _ => simp [cur, e, dat] at q
      | ins _ _ => simp [cur, e, dat] at q
      | lck _ => simp [cur, e, dat] at q
      | tab _ => simp [cur, e, dat] at q
  | non => exact base .non q
  | bl b => exact base (.bl b) q
  | int i => exact base (.int i) q
  | str s => exact base (.str s) q
  | ty n => exact base (.ty n) q
  | tup h r => exact base (.tup h r) q
  | tpl h hd r => exact base (.tpl h hd r) q
  | lst h r => exact base (.lst h r) q
  | dK h r => exact base (.dK h r) q
  | dT h r => exact base (.dT h r) q
  | lk h r => exact base (.lk h r) q
  | ob h r => exact base (.ob h r) q
  | xob0 h => exact base (.xob0 h) q
  | lam h r => exact base (.lam h r) q
  | xob h hd r => exact base (.xob h hd r) q
end
/-! ### lists -/
def lstOf (h : AH) : D → Option (List D)
  | .lst xs => some xs
  | .ref a => match h a with
    | some (.lst xs) => some xs
    | _ => none
  | _ => none
def seqOf (h : AH) : D → Option (List D)
  | .tup xs => some xs
  | .tpl xs => some xs
  | d => lstOf h d
def newL (m : Bool) (xs : List D) (h : AH) (Q : KD) : Prop := if m = true then ∀ p, h p = none → Q (.ref p) (up h p (.lst xs)) else Q (.lst xs) h
section
variable {K : PySem.W.Frag} {F : Hp} {h : AH} {H : Hp} {d : D} {v : V} {xs : List D}
theorem Sim.lstOf (S : Sim K F h H) (r : Rep K F d v) (e : lstOf h d = some xs) : ∃ a vs, v = .ref a ∧ H a = some (.lst vs) ∧ Reps K F xs vs := by
  cases r with
  | ref a =>
    cases q : h a with
    | none => simp [DL.lstOf, q] at e
    | some o =>
      cases o with
      | lst ys =>
        simp only [DL.lstOf, q, Option.some.injEq] at e
        subst e
        obtain ⟨_, u, hu, vs, rfl, rs⟩ := S.ob _ _ q
        exact ⟨a, vs, rfl, hu, rs⟩
      | dK _ => simp [DL.lstOf, q] at e
      | dT _ => simp [DL.lstOf, q] at e
      | ins _ _ => simp [DL.lstOf, q] at e
      | lck _ => simp [DL.lstOf, q] at e
      | tab _ => simp [DL.lstOf, q] at e
  | @lst a ys vs hf rs =>
    cases e
    exact ⟨a, vs, rfl, S.fz _ _ hf, rs⟩
  | non => cases e
  | bl _ => cases e
  | int _ => cases e
  | str _ => cases e
  | ty _ => cases e
  | lk _ _ => cases e
  | ob _ _ => cases e
  | xob0 _ => cases e
  | lam _ _ => cases e
  | xob _ _ _ => cases e
  | tup _ _ => cases e
  | tpl _ _ _ => cases e
  | dK _ _ => cases e
  | dT _ _ => cases e
theorem Sim.seqOf (S : Sim K F h H) (r : Rep K F d v) (e : seqOf h d = some xs) : ∃ a vs, v = .ref a ∧ (SqL K H a vs ∨ SqT K H a vs) ∧ Reps K F xs vs := by
  by_cases c : ∃ ys, d = .tup ys
  · obtain ⟨ys, rfl⟩ := c
    cases r with
    | @tup a _ vs hf rs =>
      cases e
      exact ⟨a, vs, rfl, .inr (sqt_of S.fz hf), rs⟩
  by_cases c2 : ∃ ys, d = .tpl ys
  · obtain ⟨ys, rfl⟩ := c2
    cases r with
    | @tpl a _ _ vs hf _ rs =>
      cases e
      exact ⟨a, vs, rfl, .inr (sqt_of S.fz (.inl (.inr ⟨_, hf⟩))), rs⟩
  · have e' : DL.lstOf h d = some xs := by
      cases d <;> first | exact e | exact absurd ⟨_, rfl⟩ c | exact absurd ⟨_, rfl⟩ c2
    obtain ⟨a, vs, r1, r2, r3⟩ := S.lstOf r e'
    exact ⟨a, vs, r1, .inl (.of r2), r3⟩
theorem Sim.newL {m : Bool} {vs : List V} {Q : VK} (S : Sim K F h H) (r : Reps K F xs vs) (q : newL m xs h (LQ K F Q)) : ∀ p, H p = none → Q (.ref p) (upd H p (.lst vs)) := by
  intro p hp
  obtain ⟨f, g⟩ := S.free hp
  unfold DL.newL at q
  split at q
  · exact q p g F _ _ (.refl F) (S.newM hp ⟨vs, rfl, r⟩) (.ref p)
  · exact q _ _ _ (ext_upd f) (S.newF hp _) (.lst upd_same (r.ext (ext_upd f)))
theorem newL_mo {m : Bool} {Q Q' : KD} (hq : ∀ d h, Q d h → Q' d h) (q : newL m xs h Q) : newL m xs h Q' := by
  unfold newL at *
  split at q
  · rename_i c; rw [if_pos c]; exact fun p e => hq _ _ (q p e)
  · rename_i c; rw [if_neg c]; exact hq _ _ q
@[simp] theorem newL_t {Q : KD} : newL true xs h Q = ∀ p, h p = none → Q (.ref p) (up h p (.lst xs)) := by simp [newL]
@[simp] theorem newL_f {Q : KD} : newL false xs h Q = Q (.lst xs) h := by simp [newL]
/-- a new tuple -/
theorem Sim.newT {vs : List V} {Q : VK} (S : Sim K F h H) (r : Reps K F xs vs) (q : LQ K F Q (.tup xs) h) : ∀ p, H p = none → Q (.ref p) (upd H p (.tup vs)) := by
  intro p hp
  obtain ⟨f, g⟩ := S.free hp
  exact q _ _ _ (ext_upd f) (S.newF hp _) (.tup (.of upd_same) (r.ext (ext_upd f)))
theorem LQ.at {Q : VK} (q : LQ K F Q d h) (S : Sim K F h H) (r : Rep K F d v) : Q v H := q F H v (.refl F) S r
end
/-! ### operators over data -/
structure OpD (K : PySem.W.Frag) (r : V → V → Hp → VK → Prop) (f : D → D → AH → KD → Prop) : Prop where
  to : ∀ {F h H x y vx vy} {Q : VK}, Sim K F h H → Rep K F x vx → Rep K F y vy → f x y h (LQ K F Q) → r vx vy H Q
  mo : ∀ {x y h} {Q Q' : KD}, (∀ d h, Q d h → Q' d h) → f x y h Q → f x y h Q'
def MulOk (i j : Int) : Prop := (-(2 ^ 64) < i ∧ i < 2 ^ 64) ∨ (-(2 ^ 64) < j ∧ j < 2 ^ 64) ∨ i.natAbs.log2 + j.natAbs.log2 < 1000000
def DivOk (j : Int) : Prop := 0 < j ∧ (j < 1073741824 ∨ j.natAbs.log2 < 9000)
def PowOk (i j : Int) : Prop := 0 ≤ j ∧ j ≤ 1000000 ∧ i.natAbs < 2 ^ 64
def dAdd (m : Bool) (x y : D) (h : AH) (Q : KD) : Prop := match x, y with
  | .int i, .int j => Q (.int (i + j)) h
  | .str a, .str b => a.length + b.length ≤ sizeLine ∧ Q (.str (a ++ b)) h
  | .tup xs, .tup ys => xs.length + ys.length ≤ sizeLine ∧ Q (.tup (xs ++ ys)) h
  | x, y => ∃ xs ys, lstOf h x = some xs ∧ lstOf h y = some ys ∧ xs.length + ys.length ≤ sizeLine ∧ newL m (xs ++ ys) h Q
def dSub (x y : D) (h : AH) (Q : KD) : Prop := match x, y with
  | .int i, .int j => Q (.int (i - j)) h
  | _, _ => False
def dMul (m : Bool) (x y : D) (h : AH) (Q : KD) : Prop := match x, y with
  | .int i, .int j => MulOk i j ∧ Q (.int (i * j)) h
  | x, .int k => ∃ xs, lstOf h x = some xs ∧ k < 2 ^ 62 ∧ -(2 ^ 62) < k ∧ xs.length * k.toNat ≤ sizeLine ∧ newL m (List.replicate k.toNat xs).flatten h Q
  | _, _ => False
def dDiv (x y : D) (h : AH) (Q : KD) : Prop := match x, y with
  | .int i, .int j => DivOk j ∧ Q (.int (i / j)) h
  | _, _ => False
def dMod (x y : D) (h : AH) (Q : KD) : Prop := match x, y with
  | .int i, .int j => 0 < j ∧ Q (.int (i % j)) h
  | _, _ => False
def dPow (x y : D) (h : AH) (Q : KD) : Prop := match x, y with
  | .int i, .int j => PowOk i j ∧ Q (.int (i ^ j.toNat)) h
  | _, _ => False
def dCmpI (f : Int → Int → Bool) (x y : D) (h : AH) (Q : KD) : Prop := match x, y with
  | .int i, .int j => Q (.bl (f i j)) h
  | _, _ => False
/-- == of data -/
def dEq (f : Bool → Bool) (x y : D) (h : AH) (Q : KD) : Prop := match x, y with
  | .int i, .int j => Q (.bl (f (decide (i = j)))) h
  | .str i, .str j => Q (.bl (f (decide (i = j)))) h
  | .bl i, .bl j => Q (.bl (f (decide (i = j)))) h
  | x, y => dat (cur h x) = true ∧ dat (cur h y) = true ∧ SeqAt.shaped (pd (cur h x)) = true ∧ SeqAt.shaped (pd (cur h y)) = true ∧ Q (.bl (f (PyData.eqv (pd (cur h x)) (pd (cur h y))))) h
def dIsN (f : Bool → Bool) (x y : D) (h : AH) (Q : KD) : Prop := match x, y with
  | .non, .non => Q (.bl (f true)) h
  | .bl i, .bl j => Q (.bl (f (decide (i = j)))) h
  | _, .non => Q (.bl (f false)) h
  | _, _ => False
section
variable {X : Cx}
/-- the rule of values that a D-operator stands on -/
def rMul (K : PySem.W.Frag) : R2 := fun x y H Q => rI CMul (fun i j => .int (i * j)) x y H Q ∨ rI CMulW (fun i j => .int (i * j)) x y H Q ∨ rRep x y H Q
theorem op_mulD : OpR X (binaryOp .Mult) (rMul X.K) := OpR.or op_mul (OpR.or op_mulW op_rep)
theorem dMul_ok {K : PySem.W.Frag} {m : Bool} : OpD K (rMul K) (dMul m) where
  to := by
    intro F h H x y vx vy Q S rx ry q
    unfold dMul at q
    split at q
    · cases rx; cases ry
      obtain ⟨c, q⟩ := q
      rcases c with c | c | c
      · exact .inl ⟨_, _, rfl, rfl, .inl c, q.at S (.int _)⟩
      · exact .inl ⟨_, _, rfl, rfl, .inr c, q.at S (.int _)⟩
      · exact .inr (.inl ⟨_, _, rfl, rfl, c, q.at S (.int _)⟩)
    · obtain ⟨xs, e, c1, c2, l, q⟩ := q
      obtain ⟨a, vs, rfl, ha, rs⟩ := S.lstOf rx e
      cases ry
      refine .inr (.inr ⟨a, _, vs, rfl, rfl, ha, by omega, by omega, by rw [← rs.length]; exact l, S.newL (vs := (List.replicate _ vs).flatten) ?_ q⟩)
      generalize Int.toNat _ = n
      induction n with
      | zero => exact .nil
      | succ n ih => rw [List.replicate_succ, List.replicate_succ, List.flatten_cons, List.flatten_cons]; exact rs.append ih
    · exact q.elim
  mo := by
    intro x y h Q Q' hq q
    unfold dMul at *
    split at q
    · exact ⟨q.1, hq _ _ q.2⟩
    · obtain ⟨xs, e, c1, c2, l, q⟩ := q
      exact ⟨xs, e, c1, c2, l, newL_mo hq q⟩
    · exact q.elim
def rAddD (K : PySem.W.Frag) : R2 := fun x y H Q => rI0 (fun i j => .int (i + j)) x y H Q ∨ (∃ i j, x = .str i ∧ y = .str j ∧ i.length + j.length ≤ sizeLine ∧ Q (.str (i ++ j)) H) ∨ rCatA K x y H Q ∨ rCat x y H Q
theorem op_addD : OpR X (binaryOp .Add) (rAddD X.K) := OpR.or op_add (OpR.or op_add_str (OpR.or op_catA op_cat))
theorem reps_nil {K : PySem.W.Frag} {F : Hp} {xs : List D} {vs : List V} (r : Reps K F xs vs) : vs = [] ↔ xs = [] := by
  cases r <;> simp
theorem dAdd_ok {K : PySem.W.Frag} {m : Bool} : OpD K (rAddD K) (dAdd m) where
  to := by
    intro F h H x y vx vy Q S rx ry q
    unfold dAdd at q
    split at q
    · cases rx; cases ry
      exact .inl ⟨_, _, rfl, rfl, q.at S (.int _)⟩
    · cases rx; cases ry
      exact .inr (.inl ⟨_, _, rfl, rfl, q.1, q.2.at S (.str _)⟩)
    · cases rx with
      | @tup a xs vs ha rs =>
      cases ry with
      | @tup b ys ws hb rt =>
      obtain ⟨l, q⟩ := q
      refine .inr (.inr (.inl ⟨a, b, vs, ws, rfl, rfl, sqt_of S.fz ha, sqt_of S.fz hb, by rw [← rs.length, ← rt.length]; exact l, fun e => ?_, fun _ e => ?_, fun _ _ => S.newT (rs.append rt) q⟩))
      · rw [(reps_nil rs).mp e, List.nil_append] at q
        exact q.at S (.tup hb rt)
      · rw [(reps_nil rt).mp e, List.append_nil] at q
        exact q.at S (.tup ha rs)
    · obtain ⟨xs, ys, e1, e2, l, q⟩ := q
      obtain ⟨a, vs, rfl, ha, rs⟩ := S.lstOf rx e1
      obtain ⟨b, ws, rfl, hb, rt⟩ := S.lstOf ry e2
      exact .inr (.inr (.inr ⟨a, b, vs, ws, rfl, rfl, ha, hb, by rw [← rs.length, ← rt.length]; exact l, S.newL (rs.append rt) q⟩))
  mo := by
    intro x y h Q Q' hq q
    unfold dAdd at *
    split at q
    · exact hq _ _ q
    · exact ⟨q.1, hq _ _ q.2⟩
    · exact ⟨q.1, hq _ _ q.2⟩
    · obtain ⟨xs, ys, e1, e2, l, q⟩ := q
      exact ⟨xs, ys, e1, e2, l, newL_mo hq q⟩
theorem dSub_ok {K : PySem.W.Frag} : OpD K (rI0 fun i j => .int (i - j)) dSub where
  to := by
    intro F h H x y vx vy Q S rx ry q
    unfold dSub at q
    split at q
    · cases rx; cases ry; exact ⟨_, _, rfl, rfl, q.at S (.int _)⟩
    · exact q.elim
  mo := by
    intro x y h Q Q' hq q
    unfold dSub at *
    split at q
    · exact hq _ _ q
    · exact q.elim
def rDivD : R2 := fun x y H Q => rI CDiv (fun i j => .int (i / j)) x y H Q ∨ rI CDivW (fun i j => .int (i / j)) x y H Q
theorem op_divD : OpR X (binaryOp .FloorDiv) rDivD := OpR.or op_fdiv op_fdivW
theorem dDiv_ok {K : PySem.W.Frag} : OpD K rDivD dDiv where
  to := by
    intro F h H x y vx vy Q S rx ry q
    unfold dDiv at q
    split at q
    · cases rx; cases ry
      obtain ⟨⟨c0, c⟩, q⟩ := q
      rcases c with c | c
      · exact .inl ⟨_, _, rfl, rfl, ⟨c0, c⟩, q.at S (.int _)⟩
      · exact .inr ⟨_, _, rfl, rfl, ⟨c0, c⟩, q.at S (.int _)⟩
    · exact q.elim
  mo := by
    intro x y h Q Q' hq q
    unfold dDiv at *
    split at q
    · exact ⟨q.1, hq _ _ q.2⟩
    · exact q.elim
theorem dMod_ok {K : PySem.W.Frag} : OpD K (rI (fun _ j => 0 < j) fun i j => .int (i % j)) dMod where
  to := by
    intro F h H x y vx vy Q S rx ry q
    unfold dMod at q
    split at q
    · cases rx; cases ry; exact ⟨_, _, rfl, rfl, q.1, q.2.at S (.int _)⟩
    · exact q.elim
  mo := by
    intro x y h Q Q' hq q
    unfold dMod at *
    split at q
    · exact ⟨q.1, hq _ _ q.2⟩
    · exact q.elim
theorem dPow_ok {K : PySem.W.Frag} : OpD K (rI CPow fun i j => .int (i ^ j.toNat)) dPow where
  to := by
    intro F h H x y vx vy Q S rx ry q
    unfold dPow at q
    split at q
    · cases rx; cases ry; exact ⟨_, _, rfl, rfl, q.1, q.2.at S (.int _)⟩
    · exact q.elim
  mo := by
    intro x y h Q Q' hq q
    unfold dPow at *
    split at q
    · exact ⟨q.1, hq _ _ q.2⟩
    · exact q.elim
theorem dCmpI_ok {K : PySem.W.Frag} {f : Int → Int → Bool} : OpD K (rI0 fun i j => .bl (f i j)) (dCmpI f) where
  to := by
    intro F h H x y vx vy Q S rx ry q
    unfold dCmpI at q
    split at q
    · cases rx; cases ry; exact ⟨_, _, rfl, rfl, q.at S (.bl _)⟩
    · exact q.elim
  mo := by
    intro x y h Q Q' hq q
    unfold dCmpI at *
    split at q
    · exact hq _ _ q
    · exact q.elim
def rEqF (K : PySem.W.Frag) (f : Bool → Bool) : R2 := fun x y H Q => (scal x y = true ∧ Q (.bl (f (decide (x = y)))) H) ∨ ∃ d e, Dp K H x d ∧ Dp K H y e ∧ SeqAt.shaped d = true ∧ SeqAt.shaped e = true ∧ Q (.bl (f (PyData.eqv d e))) H
theorem op_eqF (hu : X.A.units + 64 < cLine) : OpR X (compareOp .Eq) (rEqF X.K fun b => b) := OpR.or op_eq (op_eqD hu)
theorem op_neF (hu : X.A.units + 64 < cLine) : OpR X (compareOp .NotEq) (rEqF X.K fun b => !b) := OpR.or op_ne (op_neD hu)
theorem dec_int {i j : Int} : decide (V.int i = V.int j) = decide (i = j) := by simp
theorem dec_str {i j : Str} : decide (V.str i = V.str j) = decide (i = j) := by simp
theorem dec_bl {i j : Bool} : decide (V.bl i = V.bl j) = decide (i = j) := by simp
theorem dEq_ok {K : PySem.W.Frag} {f : Bool → Bool} : OpD K (rEqF K f) (dEq f) where
  to := by
    intro F h H x y vx vy Q S rx ry q
    unfold dEq at q
    split at q
    · cases rx; cases ry; exact .inl ⟨rfl, by rw [dec_int]; exact q.at S (.bl _)⟩
    · cases rx; cases ry; exact .inl ⟨rfl, by rw [dec_str]; exact q.at S (.bl _)⟩
    · cases rx; cases ry; exact .inl ⟨rfl, by rw [dec_bl]; exact q.at S (.bl _)⟩
    · obtain ⟨c1, c2, c3, c4, q⟩ := q
      exact .inr ⟨_, _, S.curDp rx c1, S.curDp ry c2, c3, c4, q.at S (.bl _)⟩
  mo := by
    intro x y h Q Q' hq q
    unfold dEq at *
    split at q
    · exact hq _ _ q
    · exact hq _ _ q
    · exact hq _ _ q
    · obtain ⟨c1, c2, c3, c4, q⟩ := q
      exact ⟨c1, c2, c3, c4, hq _ _ q⟩
def rIsF (f : Bool → Bool) : R2 := fun x y H Q => (y = .non ∧ Q (.bl (f (decide (x = .non)))) H) ∨ ∃ a b : Bool, x = .bl a ∧ y = .bl b ∧ Q (.bl (f (decide (a = b)))) H
theorem op_isF : OpR X (compareOp .Is) (rIsF fun b => b) := OpR.or op_isN op_isBl
theorem Rep.nonv {K : PySem.W.Frag} {F : Hp} {d : D} {v : V} (r : Rep K F d v) (h : d ≠ .non) : v ≠ .non := by
  cases r <;> first | exact absurd rfl h | (intro z; cases z)
theorem dIsN_ok {K : PySem.W.Frag} {f : Bool → Bool} : OpD K (rIsF f) (dIsN f) where
  to := by
    intro F h H x y vx vy Q S rx ry q
    unfold dIsN at q
    split at q
    · cases rx; cases ry; exact .inl ⟨rfl, q.at S (.bl _)⟩
    · cases rx; cases ry; exact .inr ⟨_, _, rfl, rfl, q.at S (.bl _)⟩
    · rename_i hx _
      cases ry
      have n : vx ≠ .non := rx.nonv (by intro e; subst e; simp_all)
      exact .inl ⟨rfl, by rw [decide_eq_false n]; exact q.at S (.bl _)⟩
    · exact q.elim
  mo := by
    intro x y h Q Q' hq q
    unfold dIsN at *
    split at q
    · exact hq _ _ q
    · exact hq _ _ q
    · exact hq _ _ q
    · exact q.elim
end
end DL
namespace DL
open PySem PySem.Spec L2
/-! ### expressions over data -/
def wC (d : D) : WE := fun _ h Q _ => Q d h
def wVar (i : Nat) : WE := fun ρ h Q _ => match ρ[i]? with
  | some (some d) => Q d h
  | _ => False
def wOp (f : D → D → AH → KD → Prop) (a b : WE) : WE := fun ρ h Q X => a ρ h (fun x h1 => b ρ h1 (fun y h2 => f x y h2 Q) X) X
def wNeg (a : WE) : WE := fun ρ h Q X => a ρ h (fun x h1 => match x with
  | .int i => Q (.int (-i)) h1
  | _ => False) X
def wChain (f g : D → D → AH → KD → Prop) (a b c : WE) : WE := fun ρ h Q X => a ρ h (fun x h1 => b ρ h1 (fun y h2 => f x y h2 fun z h3 => match z with
  | .bl k => if k = true then c ρ h3 (fun u h4 => g y u h4 Q) X else Q (.bl false) h3
  | _ => False) X) X
def wTest (a : WE) : WT := fun ρ h Q X => a ρ h (fun x h1 => match x with
  | .bl b => Q b h1
  | _ => False) X
def truD (h : AH) (x : D) : Option Bool := match cur h x with
  | .non => some false
  | .bl b => some b
  | .int i => some (i != 0)
  | .tup xs => some (!xs.isEmpty)
  | .tpl xs => some (!xs.isEmpty)
  | .lst xs => some (!xs.isEmpty)
  | .dK xs => some (!xs.isEmpty)
  | _ => none
def wTruth (a : WE) : WT := fun ρ h Q X => a ρ h (fun x h1 => ∃ k, truD h1 x = some k ∧ Q k h1) X
def wAnd (a b : WT) : WT := fun ρ h Q X => a ρ h (fun c h1 => if c = true then b ρ h1 Q X else Q false h1) X
def wOr (a b : WT) : WT := fun ρ h Q X => a ρ h (fun c h1 => if c = true then Q true h1 else b ρ h1 Q X) X
def wNot (a : WT) : WT := fun ρ h Q X => a ρ h (fun c h1 => Q (!c) h1) X
def wAndV (a b : WE) : WE := fun ρ h Q X => a ρ h (fun x h1 => match x with
  | .bl c => if c = true then b ρ h1 Q X else Q (.bl false) h1
  | _ => False) X
def wNotV (a : WE) : WE := fun ρ h Q X => a ρ h (fun x h1 => match x with
  | .bl c => Q (.bl (!c)) h1
  | _ => False) X
def wIf (t : WT) (a b : WE) : WE := fun ρ h Q X => t ρ h (fun c h1 => if c = true then a ρ h1 Q X else b ρ h1 Q X) X
def wNil : WA := fun _ h Q _ => Q [] h
def wCons (a : WE) (r : WA) : WA := fun ρ h Q X => a ρ h (fun x h1 => r ρ h1 (fun xs h2 => Q (x :: xs) h2) X) X
def wTup (a : WA) : WE := fun ρ h Q X => a ρ h (fun xs h1 => xs.length ≤ sizeLine ∧ Q (.tup xs) h1) X
def wLst (m : Bool) (a : WA) : WE := fun ρ h Q X => a ρ h (fun xs h1 => xs.length ≤ sizeLine ∧ newL m xs h1 Q) X
def wCallP (S : FSpec) (n : Nat) (g : List D → List D → List D) (wa : WA) : WE := fun ρ h Q X => wa ρ h (fun ds h1 => ds.length = n ∧ S (g ds []) h1 Q X) X
/-- a built-in -/
def wB (r : List D → AH → KD → Prop) (a : WA) : WE := fun ρ h Q X => a ρ h (fun xs h1 => r xs h1 Q) X
section
variable {X : Cx} {E : XK} {k : Nat} {a b e : Expr} {es : List Expr} {wa wb wc : WE} {ta tb : WT} {wl : WA} {pos : Pos}
theorem ae_c {v : V} {d : D} (h : PE X e (tC v)) (r : ∀ F, Rep X.K F d v) : AE X E e (wC d) := by
  refine ⟨PE.imp h fun σ H Q ⟨F, ρ, g, S, R, q⟩ => ?_, fun ρ h Q Q' X X' hq _ q => hq _ _ q⟩
  exact LQ.at q S (r F)
theorem ae_int {i : Int} {j pos} : AE X E (.Constant (.int i) j pos) (wC (.int i)) := ae_c pe_int fun _ => .int i
theorem ae_bl {i : Bool} {j pos} : AE X E (.Constant (.bool i) j pos) (wC (.bl i)) := ae_c pe_bl fun _ => .bl i
theorem ae_non {j pos} : AE X E (.Constant .none j pos) (wC .non) := ae_c pe_non fun _ => .non
theorem ae_str {i : Str} {j pos} : AE X E (.Constant (.str i) j pos) (wC (.str i)) := ae_c pe_str fun _ => .str i
/-- what a name of the module holds -/
structure Cst (K : PySem.W.Frag) (mg : Str → Option Value) (x : Str) (d : D) : Prop where
  ex : ∃ v u, mg x = some u ∧ RelV v u ∧ ∀ F, Rep K F d v
theorem ae_glob {x : Str} {d : D} (c : Cst X.K X.mg x d) (hg : Gl X x := by rfl) (hd : (x == ("__debug__" : Str)) = false := by decide) : AE X E (.Name x pos) (wC d) := by
  obtain ⟨v, u, m, r, q⟩ := c.ex
  exact ae_c (pe_glob hg m r hd) q
theorem ae_ty {x : Str} {n : String} (hm : X.mg x = none) (hv : bootBuiltins x = some (.type n)) (hg : Gl X x := by rfl) (hn : x ≠ "__name__" := by decide) (hd : (x == ("__debug__" : Str)) = false := by decide) : AE X E (.Name x pos) (wC (.ty n)) :=
  ae_c (pe_bltn hg hm hv (v := .ty n) rfl hn hd) fun _ => .ty n
theorem ae_var (i : Nat) {x : Str} (hN : X.N[i]? = some x := by rfl) (hv : Vis X.env.scope x := by first | exact Or.inl rfl | exact Or.inr (Or.inl rfl) | exact Or.inr (Or.inr rfl))
    (hd : (x == ("__debug__" : Str)) = false := by decide) (hcd : (x == ("__classdict__" : Str)) = false := by decide) : AE X E (.Name x pos) (wVar i) := by
  refine ⟨PE.imp (pe_var hN hv hd hcd) fun σ H Q ⟨F, ρ, g, S, R, q⟩ => ?_, fun ρ h Q Q' X X' hq _ q => ?_⟩
  · unfold wVar at q
    split at q
    · rename_i d e
      obtain ⟨v, h1, h2⟩ := R.2 i d e
      exact ⟨v, h1, LQ.at q S h2⟩
    · exact q.elim
  · unfold wVar at *
    split at q
    · exact hq _ _ q
    · exact q.elim
/-- two expressions, then an operator of values -/
theorem two {r : R2} {f : D → D → AH → KD → Prop} (ok : OpD X.K r f) (ha : AE X E a wa) (hb : AE X E b wb) {σ : L2.St} {H : Hp} {Q : VK} (h : tE X.K E (wOp f wa wb) σ H Q) : tOp r (tE X.K E wa) (tE X.K E wb) σ H Q := by
  obtain ⟨F, ρ, g, S, R, q⟩ := h
  refine ⟨F, ρ, g, S, R, ha.mo _ _ _ _ _ _ (fun x h1 hx => ?_) (fun _ _ z => z) q⟩
  intro F1 H1 vx e1 S1 rx
  refine ⟨F1, ρ, h1, S1, R.ext e1, hb.mo _ _ _ _ _ _ (fun y h2 hf => ?_) (fun _ _ z => LX.ext e1 z) hx⟩
  intro F2 H2 vy e2 S2 ry
  exact ok.to S2 (rx.ext e2) ry (ok.mo (fun _ _ z => LQ.ext (e1.trans e2) z) hf)
theorem mo_op {f : D → D → AH → KD → Prop} (mo : ∀ {x y h} {Q Q' : KD}, (∀ d h, Q d h → Q' d h) → f x y h Q → f x y h Q') (ma : MoE wa) (mb : MoE wb) : MoE (wOp f wa wb) := fun ρ h Q Q' X X' hq hx q =>
  ma _ _ _ _ _ _ (fun x h1 q1 => mb _ _ _ _ _ _ (fun y h2 q2 => mo hq q2) hx q1) hx q
theorem ae_bin {op : Operator} {r : R2} {f : D → D → AH → KD → Prop} (ok : OpD X.K r f) (ho : OpR X (binaryOp op) r) (ha : AE X E a wa) (hb : AE X E b wb) : AE X E (.BinOp a op b pos) (wOp f wa wb) :=
  ⟨PE.imp (pe_op ho ha.run hb.run) fun σ H Q h => two ok ha hb h, mo_op ok.mo ha.mo hb.mo⟩
theorem ae_add (m : Bool) (ha : AE X E a wa) (hb : AE X E b wb) : AE X E (.BinOp a .Add b pos) (wOp (dAdd m) wa wb) := ae_bin dAdd_ok op_addD ha hb
theorem ae_sub (ha : AE X E a wa) (hb : AE X E b wb) : AE X E (.BinOp a .Sub b pos) (wOp dSub wa wb) := ae_bin dSub_ok op_sub ha hb
theorem ae_mul (m : Bool) (ha : AE X E a wa) (hb : AE X E b wb) : AE X E (.BinOp a .Mult b pos) (wOp (dMul m) wa wb) := ae_bin (r := rMul X.K) dMul_ok op_mulD ha hb
theorem ae_div (ha : AE X E a wa) (hb : AE X E b wb) : AE X E (.BinOp a .FloorDiv b pos) (wOp dDiv wa wb) := ae_bin dDiv_ok op_divD ha hb
theorem ae_mod (ha : AE X E a wa) (hb : AE X E b wb) : AE X E (.BinOp a .Mod b pos) (wOp dMod wa wb) := ae_bin dMod_ok op_mod ha hb
theorem ae_pow (ha : AE X E a wa) (hb : AE X E b wb) : AE X E (.BinOp a .Pow b pos) (wOp dPow wa wb) := ae_bin dPow_ok op_pow ha hb
theorem ae_neg (ha : AE X E a wa) : AE X E (.UnaryOp .USub a pos) (wNeg wa) := by
  refine ⟨PE.imp (pe_un un_neg ha.run) fun σ H Q ⟨F, ρ, g, S, R, q⟩ => ?_, fun ρ h Q Q' X X' hq hx q => ?_⟩
  · refine ⟨F, ρ, g, S, R, ha.mo _ _ _ _ _ _ (fun x h1 hx => ?_) (fun _ _ z => z) q⟩
    intro F1 H1 vx e1 S1 rx
    split at hx
    · cases rx; exact ⟨_, rfl, hx F1 H1 _ e1 S1 (.int _)⟩
    · exact hx.elim
  · refine ha.mo _ _ _ _ _ _ (fun x h1 q1 => ?_) hx q
    split at q1
    · exact hq _ _ q1
    · exact q1.elim
theorem ae_cmp {op : CmpOp} {r : R2} {f : D → D → AH → KD → Prop} (ok : OpD X.K r f) (ho : OpR X (compareOp op) r) (ha : AE X E a wa) (hb : AE X E b wb) (hm : behindInMarks op b = false := by first | exact nobehind _ (by decide) (by decide) | rfl) : AE X E (.Compare a [op] [b] pos) (wOp f wa wb) :=
  ⟨PE.imp (pe_cmpR ho ha.run hb.run hm) fun σ H Q h => two ok ha hb h, mo_op ok.mo ha.mo hb.mo⟩
theorem ae_lt (ha : AE X E a wa) (hb : AE X E b wb) : AE X E (.Compare a [.Lt] [b] pos) (wOp (dCmpI fun i j => decide (i < j)) wa wb) := ae_cmp dCmpI_ok op_lt ha hb
theorem ae_gt (ha : AE X E a wa) (hb : AE X E b wb) : AE X E (.Compare a [.Gt] [b] pos) (wOp (dCmpI fun i j => decide (j < i)) wa wb) := ae_cmp dCmpI_ok op_gt ha hb
theorem ae_eq (c : Cg gz X E k) (ha : AE X E a wa) (hb : AE X E b wb) : AE X E (.Compare a [.Eq] [b] pos) (wOp (dEq fun b => b) wa wb) := ae_cmp dEq_ok (op_eqF c.room.units) ha hb
theorem ae_ne (c : Cg gz X E k) (ha : AE X E a wa) (hb : AE X E b wb) : AE X E (.Compare a [.NotEq] [b] pos) (wOp (dEq fun b => !b) wa wb) := ae_cmp dEq_ok (op_neF c.room.units) ha hb
theorem ae_is (ha : AE X E a wa) (hb : AE X E b wb) : AE X E (.Compare a [.Is] [b] pos) (wOp (dIsN fun b => b) wa wb) := ae_cmp dIsN_ok op_isF ha hb
theorem mo_chain {f g : D → D → AH → KD → Prop} (mf : ∀ {x y h} {Q Q' : KD}, (∀ d h, Q d h → Q' d h) → f x y h Q → f x y h Q') (mg : ∀ {x y h} {Q Q' : KD}, (∀ d h, Q d h → Q' d h) → g x y h Q → g x y h Q') (ma : MoE wa) (mb : MoE wb) (mc : MoE wc) : MoE (wChain f g wa wb wc) := fun ρ h Q Q' X X' hq hx q =>
  ma _ _ _ _ _ _ (fun x h1 q1 => mb _ _ _ _ _ _ (fun y h2 q2 => mf (fun z h3 q3 => by
    split at q3
    · split at q3
      · rename_i c; simp only [c, if_true]; exact mc _ _ _ _ _ _ (fun u h4 q4 => mg hq q4) hx q3
      · rename_i c; simp only [if_neg c]; exact hq _ _ q3
    · exact q3.elim) q2) hx q1) hx q
/-! ### tests -/
theorem at_val (ha : AE X E a wa) (he : ∀ whole, isTrue a X.env whole = (do let v ← whole; standAt a.pos; holding [v] (truthy v)) := by intro _; rfl) : AT X E a (wTest wa) := by
  refine ⟨PT.imp (pt_val ha.run he) fun σ H Q ⟨F, ρ, g, S, R, q⟩ => ?_, fun ρ h Q Q' X X' hq hx q => ?_⟩
  · refine ⟨F, ρ, g, S, R, ha.mo _ _ _ _ _ _ (fun x h1 hx => ?_) (fun _ _ z => z) q⟩
    intro F1 H1 vx e1 S1 rx
    split at hx
    · cases rx; exact ⟨_, rfl, hx F1 H1 e1 S1⟩
    · exact hx.elim
  · refine ha.mo _ _ _ _ _ _ (fun x h1 q1 => ?_) hx q
    split at q1
    · exact hq _ _ q1
    · exact q1.elim
theorem at_cmp {op : CmpOp} {r : R2} {f : D → D → AH → KD → Prop} (ok : OpD X.K r f) (ho : OpR X (compareOp op) r) (ha : AE X E a wa) (hb : AE X E b wb) (hm : behindInMarks op b = false := by first | exact nobehind _ (by decide) (by decide) | rfl) : AT X E (.Compare a [op] [b] pos) (wTest (wOp f wa wb)) := by
  have M : MoE (wOp f wa wb) := mo_op ok.mo ha.mo hb.mo
  refine ⟨PT.imp (pt_cmpR ho ha.run hb.run hm) fun σ H Q ⟨F, ρ, g, S, R, q⟩ => ?_, fun ρ h Q Q' X X' hq hx q => ?_⟩
  · refine two ok ha hb ⟨F, ρ, g, S, R, M _ _ _ _ _ _ (fun x h1 hx => ?_) (fun _ _ z => z) q⟩
    intro F1 H1 vx e1 S1 rx
    split at hx
    · cases rx; exact ⟨_, rfl, hx F1 H1 e1 S1⟩
    · exact hx.elim
  · refine M _ _ _ _ _ _ (fun x h1 q1 => ?_) hx q
    split at q1
    · exact hq _ _ q1
    · exact q1.elim
theorem at_lt (ha : AE X E a wa) (hb : AE X E b wb) : AT X E (.Compare a [.Lt] [b] pos) (wTest (wOp (dCmpI fun i j => decide (i < j)) wa wb)) := at_cmp dCmpI_ok op_lt ha hb
theorem at_gt (ha : AE X E a wa) (hb : AE X E b wb) : AT X E (.Compare a [.Gt] [b] pos) (wTest (wOp (dCmpI fun i j => decide (j < i)) wa wb)) := at_cmp dCmpI_ok op_gt ha hb
theorem at_ge (ha : AE X E a wa) (hb : AE X E b wb) : AT X E (.Compare a [.GtE] [b] pos) (wTest (wOp (dCmpI fun i j => decide (j ≤ i)) wa wb)) := at_cmp dCmpI_ok op_ge ha hb
theorem at_eq (c : Cg gz X E k) (ha : AE X E a wa) (hb : AE X E b wb) : AT X E (.Compare a [.Eq] [b] pos) (wTest (wOp (dEq fun b => b) wa wb)) := at_cmp dEq_ok (op_eqF c.room.units) ha hb
theorem at_ne (c : Cg gz X E k) (ha : AE X E a wa) (hb : AE X E b wb) : AT X E (.Compare a [.NotEq] [b] pos) (wTest (wOp (dEq fun b => !b) wa wb)) := at_cmp dEq_ok (op_neF c.room.units) ha hb
theorem at_is (ha : AE X E a wa) (hb : AE X E b wb) : AT X E (.Compare a [.Is] [b] pos) (wTest (wOp (dIsN fun b => b) wa wb)) := at_cmp dIsN_ok op_isF ha hb
theorem Sim.truD {K : PySem.W.Frag} {F : Hp} {h : AH} {H : Hp} {d : D} {v : V} {c : Bool} (S : Sim K F h H) (r : Rep K F d v) (q : truD h d = some c) : TruV K v H c := by
  cases r with
  | ref a =>
    cases e : h a with
    | none => simp [DL.truD, cur, e] at q
    | some o =>
      obtain ⟨_, u, hu, ro⟩ := S.ob _ _ e
      cases o with
      | lst xs =>
        obtain ⟨vs, rfl, rs⟩ := ro
        simp only [DL.truD, cur, e, Option.some.injEq] at q
        refine .inl ⟨vs, .of hu, ?_⟩
        rw [← q]; cases rs <;> rfl
      | dK xs =>
        obtain ⟨vs, rfl, rs⟩ := ro
        simp only [DL.truD, cur, e, Option.some.injEq] at q
        refine .inr (.inr ⟨vs, hu, ?_⟩)
        rw [← q]; cases rs <;> rfl
      | dT _ => simp [DL.truD, cur, e] at q
      | ins _ _ => simp [DL.truD, cur, e] at q
      | lck _ => simp [DL.truD, cur, e] at q
      | tab _ => simp [DL.truD, cur, e] at q
  | non => simp only [DL.truD, cur, Option.some.injEq] at q; exact q.symm
  | bl b => simp only [DL.truD, cur, Option.some.injEq] at q; exact q.symm
  | int i => simp only [DL.truD, cur, Option.some.injEq] at q; exact q.symm
  | str s => simp [DL.truD, cur] at q
  | ty n => simp [DL.truD, cur] at q
  | lk _ _ => simp [DL.truD, cur] at q
  | ob _ _ => simp [DL.truD, cur] at q
  | xob0 _ => simp [DL.truD, cur] at q
  | lam _ _ => simp [DL.truD, cur] at q
  | xob _ _ _ => simp [DL.truD, cur] at q
  | @tup a xs vs h r =>
    simp only [DL.truD, cur, Option.some.injEq] at q
    refine .inr (.inl ⟨vs, sqt_of S.fz h, ?_⟩)
    rw [← q]; cases r <;> rfl
  | @tpl a ob xs vs h hd r =>
    simp only [DL.truD, cur, Option.some.injEq] at q
    refine .inr (.inl ⟨vs, sqt_of S.fz (.inl (.inr ⟨_, h⟩)), ?_⟩)
    rw [← q]; cases r <;> rfl
  | @lst a xs vs h r =>
    simp only [DL.truD, cur, Option.some.injEq] at q
    refine .inl ⟨vs, .of (S.fz _ _ h), ?_⟩
    rw [← q]; cases r <;> rfl
  | @dK a xs vs h r =>
    simp only [DL.truD, cur, Option.some.injEq] at q
    refine .inr (.inr ⟨vs, S.fz _ _ h, ?_⟩)
    rw [← q]; cases r <;> rfl
  | dT _ _ => simp [DL.truD, cur] at q
theorem at_truth (ha : AE X E a wa) (he : ∀ whole, isTrue a X.env whole = (do let v ← whole; standAt a.pos; holding [v] (truthy v)) := by intro _; rfl) : AT X E a (wTruth wa) := by
  refine ⟨PT.imp (pt_truth ha.run he) fun σ H Q ⟨F, ρ, g, S, R, q⟩ => ?_, fun ρ h Q Q' X X' hq hx q => ?_⟩
  · refine ⟨F, ρ, g, S, R, ha.mo _ _ _ _ _ _ (fun x h1 hx => ?_) (fun _ _ z => z) q⟩
    intro F1 H1 vx e1 S1 rx
    obtain ⟨c, hc, hx⟩ := hx
    exact ⟨c, S1.truD rx hc, hx F1 H1 e1 S1⟩
  · exact ha.mo _ _ _ _ _ _ (fun x h1 ⟨c, hc, q1⟩ => ⟨c, hc, hq _ _ q1⟩) hx q
theorem mo_and {a b : WT} (ma : MoT a) (mb : MoT b) : MoT (wAnd a b) := fun ρ h Q Q' X X' hq hx q => ma _ _ _ _ _ _ (fun c h1 q1 => by
  split at q1
  · rename_i e; rw [if_pos e]; exact mb _ _ _ _ _ _ hq hx q1
  · rename_i e; rw [if_neg e]; exact hq _ _ q1) hx q
theorem mo_or {a b : WT} (ma : MoT a) (mb : MoT b) : MoT (wOr a b) := fun ρ h Q Q' X X' hq hx q => ma _ _ _ _ _ _ (fun c h1 q1 => by
  split at q1
  · rename_i e; rw [if_pos e]; exact hq _ _ q1
  · rename_i e; rw [if_neg e]; exact mb _ _ _ _ _ _ hq hx q1) hx q
theorem AW.at (h : AW X E a ta) : AT X E a ta := ⟨h.run.pt, h.mo⟩
theorem aw_and1 (ha : AT X E a ta) : AW X E (.BoolOp .And [a] pos) ta := ⟨pw_and1 ha.run, ha.mo⟩
theorem aw_or1 (ha : AT X E a ta) : AW X E (.BoolOp .Or [a] pos) ta := ⟨pw_or1 ha.run, ha.mo⟩
theorem aw_and {rest : List Expr} (ha : AT X E a ta) (hb : AW X E (.BoolOp .And (b :: rest) pos) tb) : AW X E (.BoolOp .And (a :: b :: rest) pos) (wAnd ta tb) := by
  refine ⟨PW.imp (pw_and ha.run hb.run) fun σ H Q ⟨F, ρ, g, S, R, q⟩ => ?_, mo_and ha.mo hb.mo⟩
  refine ⟨F, ρ, g, S, R, ha.mo _ _ _ _ _ _ (fun x h1 hx => ?_) (fun _ _ z => z) q⟩
  intro F1 H1 e1 S1
  split at hx
  · rename_i e; rw [if_pos e]
    exact ⟨F1, ρ, h1, S1, R.ext e1, hb.mo _ _ _ _ _ _ (fun _ _ z => LB.ext e1 z) (fun _ _ z => LX.ext e1 z) hx⟩
  · rename_i e; rw [if_neg e]
    exact hx F1 H1 e1 S1
theorem aw_or {rest : List Expr} (ha : AT X E a ta) (hb : AW X E (.BoolOp .Or (b :: rest) pos) tb) : AW X E (.BoolOp .Or (a :: b :: rest) pos) (wOr ta tb) := by
  refine ⟨PW.imp (pw_or ha.run hb.run) fun σ H Q ⟨F, ρ, g, S, R, q⟩ => ?_, mo_or ha.mo hb.mo⟩
  refine ⟨F, ρ, g, S, R, ha.mo _ _ _ _ _ _ (fun x h1 hx => ?_) (fun _ _ z => z) q⟩
  intro F1 H1 e1 S1
  split at hx
  · rename_i e; rw [if_pos e]
    exact hx F1 H1 e1 S1
  · rename_i e; rw [if_neg e]
    exact ⟨F1, ρ, h1, S1, R.ext e1, hb.mo _ _ _ _ _ _ (fun _ _ z => LB.ext e1 z) (fun _ _ z => LX.ext e1 z) hx⟩
theorem at_not (ha : AT X E a ta) : AT X E (.UnaryOp .Not a pos) (wNot ta) := by
  refine ⟨PT.imp (pt_not ha.run) fun σ H Q ⟨F, ρ, g, S, R, q⟩ => ?_, fun ρ h Q Q' X X' hq hx q => ha.mo _ _ _ _ _ _ (fun c h1 q1 => hq _ _ q1) hx q⟩
  exact ⟨F, ρ, g, S, R, ha.mo _ _ _ _ _ _ (fun x h1 hx F1 H1 e1 S1 => hx F1 H1 e1 S1) (fun _ _ z => z) q⟩
/-! ### and, or, not as values -/
theorem ae_one {op} (ha : AE X E a wa) : AE X E (.BoolOp op [a] pos) wa := ⟨pe_one ha.run, ha.mo⟩
theorem ae_and {rest : List Expr} (ha : AE X E a wa) (hb : AE X E (.BoolOp .And (b :: rest) pos) wb) : AE X E (.BoolOp .And (a :: b :: rest) pos) (wAndV wa wb) := by
  refine ⟨PE.imp (pe_and ha.run hb.run) fun σ H Q ⟨F, ρ, g, S, R, q⟩ => ?_, fun ρ h Q Q' X X' hq hx q => ?_⟩
  · refine ⟨F, ρ, g, S, R, ha.mo _ _ _ _ _ _ (fun x h1 hx => ?_) (fun _ _ z => z) q⟩
    intro F1 H1 vx e1 S1 rx
    split at hx
    · cases rx
      refine ⟨_, rfl, ?_⟩
      split at hx
      · rename_i e; rw [if_pos e]
        exact ⟨F1, ρ, h1, S1, R.ext e1, hb.mo _ _ _ _ _ _ (fun _ _ z => LQ.ext e1 z) (fun _ _ z => LX.ext e1 z) hx⟩
      · rename_i e; rw [if_neg e]
        exact hx F1 H1 _ e1 S1 (.bl _)
    · exact hx.elim
  · refine ha.mo _ _ _ _ _ _ (fun x h1 q1 => ?_) hx q
    split at q1
    · split at q1
      · rename_i e; simp only [if_pos e]; exact hb.mo _ _ _ _ _ _ hq hx q1
      · rename_i e; simp only [if_neg e]; exact hq _ _ q1
    · exact q1.elim
theorem ae_not (ha : AE X E a wa) : AE X E (.UnaryOp .Not a pos) (wNotV wa) := by
  refine ⟨PE.imp (pe_not ha.run) fun σ H Q ⟨F, ρ, g, S, R, q⟩ => ?_, fun ρ h Q Q' X X' hq hx q => ?_⟩
  · refine ⟨F, ρ, g, S, R, ha.mo _ _ _ _ _ _ (fun x h1 hx => ?_) (fun _ _ z => z) q⟩
    intro F1 H1 vx e1 S1 rx
    split at hx
    · cases rx; exact ⟨_, rfl, hx F1 H1 _ e1 S1 (.bl _)⟩
    · exact hx.elim
  · refine ha.mo _ _ _ _ _ _ (fun x h1 q1 => ?_) hx q
    split at q1
    · exact hq _ _ q1
    · exact q1.elim
theorem ae_if {c : Expr} (hc : AT X E c ta) (ha : AE X E a wa) (hb : AE X E b wb) : AE X E (.IfExp c a b pos) (wIf ta wa wb) := by
  refine ⟨PE.imp (pe_ifExp hc.run ha.run hb.run) fun σ H Q ⟨F, ρ, g, S, R, q⟩ => ?_, fun ρ h Q Q' X X' hq hx q => hc.mo _ _ _ _ _ _ (fun c h1 q1 => ?_) hx q⟩
  · refine ⟨F, ρ, g, S, R, hc.mo _ _ _ _ _ _ (fun x h1 hx => ?_) (fun _ _ z => z) q⟩
    intro F1 H1 e1 S1
    split at hx
    · rename_i e; rw [if_pos e]
      exact ⟨F1, ρ, h1, S1, R.ext e1, ha.mo _ _ _ _ _ _ (fun _ _ z => LQ.ext e1 z) (fun _ _ z => LX.ext e1 z) hx⟩
    · rename_i e; rw [if_neg e]
      exact ⟨F1, ρ, h1, S1, R.ext e1, hb.mo _ _ _ _ _ _ (fun _ _ z => LQ.ext e1 z) (fun _ _ z => LX.ext e1 z) hx⟩
  · split at q1
    · rename_i e; rw [if_pos e]; exact ha.mo _ _ _ _ _ _ hq hx q1
    · rename_i e; rw [if_neg e]; exact hb.mo _ _ _ _ _ _ hq hx q1
/-! ### argument lists, displays -/
theorem aa_nil : AA X E [] wNil := ⟨PA.imp pa_nil fun σ H Q ⟨F, ρ, g, S, R, q⟩ => q F H [] (.refl F) S .nil, fun ρ h Q Q' X X' hq hx q => hq _ _ q⟩
theorem aa_cons (ha : AE X E e wa) (hr : AA X E es wl) (hs : starEach (e :: es) X.env = (false, eval e X.env) :: starEach es X.env := by rfl) : AA X E (e :: es) (wCons wa wl) := by
  refine ⟨PA.imp (pa_cons ha.run hr.run hs) fun σ H Q ⟨F, ρ, g, S, R, q⟩ => ?_, fun ρ h Q Q' X X' hq hx q => ha.mo _ _ _ _ _ _ (fun x h1 q1 => hr.mo _ _ _ _ _ _ (fun xs h2 q2 => hq _ _ q2) hx q1) hx q⟩
  refine ⟨F, ρ, g, S, R, ha.mo _ _ _ _ _ _ (fun x h1 hx => ?_) (fun _ _ z => z) q⟩
  intro F1 H1 vx e1 S1 rx
  refine ⟨F1, ρ, h1, S1, R.ext e1, hr.mo _ _ _ _ _ _ (fun xs h2 h3 => ?_) (fun _ _ z => LX.ext e1 z) hx⟩
  intro F2 H2 vs e2 S2 rs
  exact h3 F2 H2 _ (e1.trans e2) S2 (.cons (rx.ext e2) rs)
theorem ae_tup {x1} (h : AA X E es wl) : AE X E (.Tuple es x1 pos) (wTup wl) := by
  refine ⟨PE.imp (pe_tup h.run) fun σ H Q ⟨F, ρ, g, S, R, q⟩ => ?_, fun ρ h0 Q Q' X X' hq hx q => h.mo _ _ _ _ _ _ (fun x h1 q1 => ⟨q1.1, hq _ _ q1.2⟩) hx q⟩
  refine ⟨F, ρ, g, S, R, h.mo _ _ _ _ _ _ (fun xs h1 hx => ?_) (fun _ _ z => z) q⟩
  intro F1 H1 vs e1 S1 rs
  exact ⟨by rw [← rs.length]; exact hx.1, S1.newT rs (LQ.ext e1 hx.2)⟩
theorem ae_lst (m : Bool) (h : AA X E es wl) : AE X E (.List es pos) (wLst m wl) := by
  refine ⟨PE.imp (pe_lst h.run) fun σ H Q ⟨F, ρ, g, S, R, q⟩ => ?_, fun ρ h0 Q Q' X X' hq hx q => h.mo _ _ _ _ _ _ (fun x h1 q1 => ⟨q1.1, newL_mo hq q1.2⟩) hx q⟩
  refine ⟨F, ρ, g, S, R, h.mo _ _ _ _ _ _ (fun xs h1 hx => ?_) (fun _ _ z => z) q⟩
  intro F1 H1 vs e1 S1 rs
  exact ⟨by rw [← rs.length]; exact hx.1, S1.newL rs (newL_mo (fun _ _ z => LQ.ext e1 z) hx.2)⟩
/-! ### calls -/
theorem ae_call {n j : Nat} {gg : List D → List D → List D} {S : FSpec} {x : Str} {p : Pos} (c : Cg gz X E k) (C : Cal gy X.prog X.w X.K X.mg X.base x j n [] gg S) (hj : j ≤ k) (hz : gy = true → gz = true) (ha : AA X E (e :: es) wl)
    (hg : Gl X x := by rfl) (hdb : (x == ("__debug__" : Str)) = false := by decide) (he : starEach (e :: es) X.env = (false, eval e X.env) :: starEach es X.env := by rfl)
    (hpl : (backTo pos (starEach es X.env)).any (·.1) = false := by rfl) : AE X E (.Call (.Name x p) (e :: es) [] pos) (wCallP S n gg wl) := by
  obtain ⟨f, fd, ps, hm, hk, G, B⟩ := C.ex
  refine ⟨⟨fun pins s σ H Q I hq => ?_⟩, fun ρ h0 Q Q' X X' hq hx q => ha.mo _ _ _ _ _ _ (fun x h1 q1 => ⟨q1.1, G.mo _ _ _ _ _ _ hq hx q1.2⟩) hx q⟩
  obtain ⟨F, ρ, g, S0, R, q⟩ := hq
  refine wpAny_Call_Name_kw (ld_glob I hg hm ?_ hdb)
  refine PySem.W.callWith_K (h₀ := X.base) I.ok.mod.kin hk
    (thn (ha.run.run pos pins s σ H (fun vs H1 => ∃ F1 h1 ds, Sim X.K F1 h1 H1 ∧ Reps X.K F1 ds vs ∧ ds.length = n ∧ S (gg ds []) h1 (LQ X.K F1 Q) (LX X.K F1 E)) I
      ⟨F, ρ, g, S0, R, ha.mo _ _ _ _ _ _ (fun ds h1 q1 F1 H1 vs e1 S1 rs => ⟨F1, h1, ds, S1, rs, q1.1, G.mo _ _ _ _ _ _ (fun _ _ z => LQ.ext e1 z) (fun _ _ z => LX.ext e1 z) q1.2⟩) (fun _ _ z => z) q⟩) fun us s1 hh => ?_) he hpl
  obtain ⟨vs, H1, I1, r1, F1, h1, ds, S1, rs, l, q1⟩ := hh
  refine ⟨I1.kIn, ?_⟩
  obtain ⟨xs, ts, rx, rt, bt⟩ := B.to s1 F1 ds [] vs [] us [] I1.kIn l rfl rs r1 .nil .nil
  exact wpAny_call (codeAny_mono (run_g (c.mono hj) G hz I1 bt rt ⟨F1, _, h1, S1, rx, q1⟩) fun r s' hr => by
    match r, hr with
    | .error _, hr => exact hr
    | .ok (.ret _), hr => exact hr)
/-- a built-in by values -/
structure CaD (X : Cx) (f : Value) (r : List D → AH → KD → Prop) : Prop where
  ex : ∃ rv, CallR X f rv ∧ ∀ {F h H ds vs} {Q : VK}, Sim X.K F h H → Reps X.K F ds vs → r ds h (LQ X.K F Q) → rv vs H Q
  mo : ∀ {ds h} {Q Q' : KD}, (∀ d h, Q d h → Q' d h) → r ds h Q → r ds h Q'
theorem ae_b {id : String} {x : Str} {p : Pos} {r : List D → AH → KD → Prop} (C : CaD X (.builtin id) r) (hm : X.mg x = none) (hv : bootBuiltins x = some (.builtin id)) (ha : AA X E (e :: es) wl)
    (hg : Gl X x := by rfl) (hn : x ≠ "__name__" := by decide) (hdb : (x == ("__debug__" : Str)) = false := by decide)
    (he : starEach (e :: es) X.env = (false, eval e X.env) :: starEach es X.env := by rfl) (hpl : (backTo pos (starEach es X.env)).any (·.1) = false := by rfl) : AE X E (.Call (.Name x p) (e :: es) [] pos) (wB r wl) := by
  obtain ⟨rv, hc, to⟩ := C.ex
  refine ⟨PE.imp (pe_callB hc hg hm hv ha.run hn hdb he hpl) fun σ H Q ⟨F, ρ, g, S, R, q⟩ => ?_, fun ρ h0 Q Q' X X' hq hx q => ha.mo _ _ _ _ _ _ (fun x h1 q1 => C.mo hq q1) hx q⟩
  exact ⟨F, ρ, g, S, R, ha.mo _ _ _ _ _ _ (fun ds h1 q1 F1 H1 vs e1 S1 rs => to S1 rs (C.mo (fun _ _ z => LQ.ext e1 z) q1)) (fun _ _ z => z) q⟩
theorem ae_bt {T : String} {x : Str} {p : Pos} {r : List D → AH → KD → Prop} (C : CaD X (.type T) r) (hm : X.mg x = none) (hv : bootBuiltins x = some (.type T)) (ha : AA X E (e :: es) wl)
    (hg : Gl X x := by rfl) (hn : x ≠ "__name__" := by decide) (hdb : (x == ("__debug__" : Str)) = false := by decide)
    (he : starEach (e :: es) X.env = (false, eval e X.env) :: starEach es X.env := by rfl) (hpl : (backTo pos (starEach es X.env)).any (·.1) = false := by rfl) : AE X E (.Call (.Name x p) (e :: es) [] pos) (wB r wl) := by
  obtain ⟨rv, hc, to⟩ := C.ex
  refine ⟨PE.imp (pe_callTy hc hg hm hv ha.run hn hdb he hpl) fun σ H Q ⟨F, ρ, g, S, R, q⟩ => ?_, fun ρ h0 Q Q' X X' hq hx q => ha.mo _ _ _ _ _ _ (fun x h1 q1 => C.mo hq q1) hx q⟩
  exact ⟨F, ρ, g, S, R, ha.mo _ _ _ _ _ _ (fun ds h1 q1 F1 H1 vs e1 S1 rs => to S1 rs (C.mo (fun _ _ z => LQ.ext e1 z) q1)) (fun _ _ z => z) q⟩
end
end DL
namespace DL
open PySem PySem.Spec L2
/-! ### statements over data -/
def wSkip : WS := fun D ρ h => D.nx ρ h
def wSeq (a b : WS) : WS := fun D ρ h => a { D with nx := b D } ρ h
def wExpr (a : WE) : WS := fun D ρ h => a ρ h (fun _ h1 => D.nx ρ h1) D.ex
def wRet (a : WE) : WS := fun D ρ h => a ρ h D.rt D.ex
def wRetN : WS := fun D _ h => D.rt .non h
def wIfS (t : WT) (a b : WS) : WS := fun D ρ h => t ρ h (fun c h1 => if c = true then a D ρ h1 else b D ρ h1) D.ex
def wNever : WS := fun _ _ _ => False
abbrev WG := D → EnvD → AH → (EnvD → AH → Prop) → KX → Prop
abbrev WGs := List D → EnvD → AH → (EnvD → AH → Prop) → KX → Prop
def gN (i : Nat) : WG := fun d ρ h Q _ => Q (ρ.set i (some d)) h
def gsNil : WGs := fun ds ρ h Q _ => ds = [] ∧ Q ρ h
def gsCons (g : WG) (r : WGs) : WGs := fun ds ρ h Q X => ∃ d ds', ds = d :: ds' ∧ g d ρ h (fun ρ1 h1 => r ds' ρ1 h1 Q X) X
def gT (n : Nat) (r : WGs) : WG := fun d ρ h Q X => ∃ xs, d = .tup xs ∧ xs.length = n ∧ r xs ρ h Q X
def wAsg (a : WE) (g : WG) : WS := fun D ρ h => a ρ h (fun x h1 => g x ρ h1 D.nx D.ex) D.ex
def MoG (g : WG) : Prop := ∀ d ρ h Q Q' X X', (∀ ρ h, Q ρ h → Q' ρ h) → (∀ x h, X x h → X' x h) → g d ρ h Q X → g d ρ h Q' X'
def MoGs (g : WGs) : Prop := ∀ d ρ h Q Q' X X', (∀ ρ h, Q ρ h → Q' ρ h) → (∀ x h, X x h → X' x h) → g d ρ h Q X → g d ρ h Q' X'
def tG (K : PySem.W.Frag) (E : XK) (g : WG) : TG := fun v σ H Q => ∃ F ρ h d, Sim K F h H ∧ EnvR K F ρ σ ∧ Rep K F d v ∧ g d ρ h (LS K F Q) (LX K F E)
def tGs (K : PySem.W.Frag) (E : XK) (g : WGs) : TGs := fun v σ H Q => ∃ F ρ h d, Sim K F h H ∧ EnvR K F ρ σ ∧ Reps K F d v ∧ g d ρ h (LS K F Q) (LX K F E)
structure AG (X : Cx) (E : XK) (e : Expr) (g : WG) : Prop where
  run : PG X e (tG X.K E g)
  mo : MoG g
structure AGs (X : Cx) (E : XK) (es : List Expr) (g : WGs) : Prop where
  run : PGs X es (tGs X.K E g)
  mo : MoGs g
theorem PG.imp {X : Cx} {e : Expr} {t t' : TG} (p : PG X e t) (h : ∀ v σ H Q, t' v σ H Q → t v σ H Q) : PG X e t' := ⟨fun pins s σ H v u Q I r q => p.run pins s σ H v u Q I r (h _ _ _ _ q)⟩
theorem PGs.imp {X : Cx} {e : List Expr} {t t' : TGs} (p : PGs X e t) (h : ∀ v σ H Q, t' v σ H Q → t v σ H Q) : PGs X e t' := ⟨fun pins s σ H v u Q I r q => p.run pins s σ H v u Q I r (h _ _ _ _ q)⟩
section
variable {X : Cx} {E : XK} {k : Nat} {a b e : Expr} {es : List Expr} {wa wb wc : WE} {ta : WT} {wl : WA} {pos : Pos} {st : Stmt} {rest : List Stmt} {s1 s2 : WS}
theorem Le.nx {D D' : EndsD} (l : D.Le D') (q : ∀ ρ h, D.nx ρ h → D'.nx ρ h) : D.Le D' := ⟨q, l.rt, l.bk, l.ct, l.ex⟩
theorem ass_nil : ASs X E [] wSkip := ⟨PSs.imp pss_nil fun D σ H ⟨F, ρ, h, S, R, q⟩ => q F H σ (.refl F) S R, fun D D' ρ h l q => l.nx _ _ q⟩
theorem mo_seq (h1 : MoS s1) (h2 : MoS s2) : MoS (wSeq s1 s2) := fun D D' ρ h l q => h1 { D with nx := s2 D } { D' with nx := s2 D' } _ _ ⟨fun ρ h z => h2 _ _ _ _ l z, l.rt, l.bk, l.ct, l.ex⟩ q
theorem ass_cons (h1 : AS X E st s1) (h2 : ASs X E rest s2) : ASs X E (st :: rest) (wSeq s1 s2) := by
  refine ⟨PSs.imp (pss_cons h1.run h2.run) fun D σ H ⟨F, ρ, h, S, R, q⟩ => ?_, mo_seq h1.mo h2.mo⟩
  refine ⟨F, ρ, h, S, R, h1.mo { LD X.K F D E with nx := s2 (LD X.K F D E) } _ _ _ ⟨fun ρ1 g1 z => ?_, fun _ _ z => z, fun _ _ z => z, fun _ _ z => z, fun _ _ z => z⟩ q⟩
  intro F1 H1 σ1 e1 S1 R1
  exact ⟨F1, ρ1, g1, S1, R1, h2.mo _ _ _ _ (LD.ext e1) z⟩
theorem ass_one (h1 : AS X E st s1) : ASs X E [st] s1 := ⟨PSs.imp (pss_one h1.run) fun D σ H q => q, h1.mo⟩
theorem as_never : AS X E st wNever := ⟨PS.imp ps_never fun D σ H ⟨_, _, _, _, _, q⟩ => q, fun _ _ _ _ _ q => q⟩
theorem as_expr (he : AE X E e wa) (hs : swapsWith e none pos.line X.env = pure false := by rfl) : AS X E (.Expr e pos) (wExpr wa) := by
  refine ⟨PS.imp (ps_expr he.run hs) fun D σ H ⟨F, ρ, h, S, R, q⟩ => ?_, fun D D' ρ h l q => he.mo _ _ _ _ _ _ (fun _ _ z => l.nx _ _ z) l.ex q⟩
  refine ⟨F, ρ, h, S, R, he.mo _ _ _ _ _ _ (fun d h1 z => ?_) (fun _ _ z => z) q⟩
  intro F1 H1 v e1 S1 _
  exact z F1 H1 σ e1 S1 (R.ext e1)
theorem as_ret (he : AE X E e wa) : AS X E (.Return (some e) pos) (wRet wa) :=
  ⟨PS.imp (ps_ret he.run) fun D σ H ⟨F, ρ, h, S, R, q⟩ => ⟨F, ρ, h, S, R, q⟩, fun D D' ρ h l q => he.mo _ _ _ _ _ _ l.rt l.ex q⟩
theorem as_if {c : Expr} {A B : List Stmt} (hc : AT X E c ta) (ha : ASs X E A s1) (hb : ASs X E B s2) : AS X E (.If c A B pos) (wIfS ta s1 s2) := by
  refine ⟨PS.imp (ps_if hc.run ha.run hb.run) fun D σ H ⟨F, ρ, h, S, R, q⟩ => ?_, fun D D' ρ h l q => hc.mo _ _ _ _ _ _ (fun c h1 q1 => ?_) l.ex q⟩
  · refine ⟨F, ρ, h, S, R, hc.mo _ _ _ _ _ _ (fun x h1 hx => ?_) (fun _ _ z => z) q⟩
    intro F1 H1 e1 S1
    split at hx
    · rename_i e; rw [if_pos e]; exact ⟨F1, ρ, h1, S1, R.ext e1, ha.mo _ _ _ _ (LD.ext e1) hx⟩
    · rename_i e; rw [if_neg e]; exact ⟨F1, ρ, h1, S1, R.ext e1, hb.mo _ _ _ _ (LD.ext e1) hx⟩
  · split at q1
    · rename_i e; rw [if_pos e]; exact ha.mo _ _ _ _ l q1
    · rename_i e; rw [if_neg e]; exact hb.mo _ _ _ _ l q1
/-! ### targets -/
theorem ag_name (i : Nat) {x : Str} (hN : X.N.Nodup) (hi : X.N[i]? = some x := by rfl) (hx : Loc X.env.scope x := by first | exact Or.inl rfl | exact Or.inr rfl) (hf : X.fn x = true ∨ X.env.scope.names.lookup x = some .local := by first | exact .inl rfl | exact .inr rfl) : AG X E (.Name x pos) (gN i) := by
  refine ⟨PG.imp (pg_name hN hi hx hf) fun v σ H Q ⟨F, ρ, h, d, S, R, r, q⟩ => q F H _ (.refl F) S (R.set r i), fun d ρ h Q Q' X X' hq _ q => hq _ _ q⟩
theorem ags_nil : AGs X E [] gsNil := by
  refine ⟨PGs.imp pgs_nil fun v σ H Q ⟨F, ρ, h, d, S, R, r, q⟩ => ?_, fun d ρ h Q Q' X X' hq _ q => ⟨q.1, hq _ _ q.2⟩⟩
  obtain ⟨rfl, q⟩ := q
  cases r
  exact ⟨rfl, q F H _ (.refl F) S R⟩
theorem ags_cons {g : WG} {gr : WGs} (h1 : AG X E e g) (h2 : AGs X E es gr) (hs : (assignEach (e :: es) X.env).map (·.2) = assign e X.env :: (assignEach es X.env).map (·.2) := by rfl) : AGs X E (e :: es) (gsCons g gr) := by
  refine ⟨PGs.imp (pgs_cons h1.run h2.run hs) fun v σ H Q ⟨F, ρ, h, d, S, R, r, q⟩ => ?_, fun d ρ h Q Q' X X' hq hx q => ?_⟩
  · obtain ⟨x, xs, rfl, q⟩ := q
    cases r with
    | cons r rr =>
      refine ⟨_, _, rfl, F, ρ, h, x, S, R, r, h1.mo _ _ _ _ _ _ _ (fun ρ1 g1 z => ?_) (fun _ _ z => z) q⟩
      intro F1 H1 σ1 e1 S1 R1
      exact ⟨F1, ρ1, g1, xs, S1, R1, rr.ext e1, h2.mo _ _ _ _ _ _ _ (fun _ _ z => LS.ext e1 z) (fun _ _ z => LX.ext e1 z) z⟩
  · obtain ⟨x, xs, e, q⟩ := q
    exact ⟨x, xs, e, h1.mo _ _ _ _ _ _ _ (fun ρ1 g1 z => h2.mo _ _ _ _ _ _ _ hq hx z) hx q⟩
theorem ag_tup {k2 n : Nat} {gr : WGs} (hc : X.calm = true) (h : AGs X E es gr) (hn : (assignEach es X.env).length = n := by rfl) (hst : (assignEach es X.env).findIdx? (·.1) = none := by rfl) : AG X E (.Tuple es k2 pos) (gT n gr) := by
  refine ⟨PG.imp (pg_tup hc h.run hn hst) fun v σ H Q ⟨F, ρ, g, d, S, R, r, q⟩ => ?_, fun d ρ g Q Q' X X' hq hx q => ?_⟩
  · obtain ⟨xs, rfl, l, q⟩ := q
    cases r with
    | @tup a _ vs hs rs => exact ⟨a, vs, rfl, sqt_of S.fz hs, by rw [← rs.length]; exact l, F, ρ, g, xs, S, R, rs, q⟩
  · obtain ⟨xs, e, l, q⟩ := q
    exact ⟨xs, e, l, h.mo _ _ _ _ _ _ _ hq hx q⟩
theorem mo_asg {g : WG} (h1 : MoE wa) (h2 : MoG g) : MoS (wAsg wa g) := fun D D' ρ h l q => h1 _ _ _ _ _ _ (fun x h1 z => h2 _ _ _ _ _ _ _ l.nx l.ex z) l.ex q
theorem to_asg {g : WG} (he : AE X E e wa) (hg : AG X E a g) {D : Ends} {σ : L2.St} {H : Hp} (q : tS X.K E (wAsg wa g) D σ H) : tAsg (tE X.K E wa) (tG X.K E g) D σ H := by
  obtain ⟨F, ρ, h, S, R, q⟩ := q
  refine ⟨F, ρ, h, S, R, he.mo _ _ _ _ _ _ (fun x h1 z => ?_) (fun _ _ z => z) q⟩
  intro F1 H1 v e1 S1 r
  exact ⟨F1, ρ, h1, x, S1, R.ext e1, r, hg.mo _ _ _ _ _ _ _ (fun _ _ z => LS.ext e1 z) (fun _ _ z => LX.ext e1 z) z⟩
theorem as_asg {tg : Expr} {g : WG} (he : AE X E e wa) (hg : AG X E tg g) (hs : swapsWithSole [tg] e pos.line X.env = pure false := by rfl) (hw : swappedStores [tg] e X.env = pure none := by rfl)
    (h1 : (assignEach [tg] X.env).map (·.2) = [assign tg X.env] := by rfl) : AS X E (.Assign [tg] e pos) (wAsg wa g) :=
  ⟨PS.imp (ps_asg he.run hg.run hs hw h1) fun D σ H q => to_asg he hg q, mo_asg he.mo hg.mo⟩
/-- name = value -/
theorem as_set (i : Nat) {x : Str} {pos' : Pos} (hN : X.N.Nodup) (he : AE X E e wa) (hi : X.N[i]? = some x := by rfl) (hx : Loc X.env.scope x := by first | exact Or.inl rfl | exact Or.inr rfl) (hs : swapsWith e (some (.Name x pos')) pos.line X.env = pure false := by rfl)
    (hf : X.fn x = true ∨ X.env.scope.names.lookup x = some .local := by first | exact .inl rfl | exact .inr rfl) : AS X E (.Assign [.Name x pos'] e pos) (wAsg wa (gN i)) := by
  have ag : AG X E (.Name x pos') (gN i) := ag_name i hN hi hx hf
  refine ⟨PS.imp (ps_set hN hi hx he.run hs hf) fun D σ H q => ?_, mo_asg he.mo ag.mo⟩
  obtain ⟨F, ρ, h, S, R, q⟩ := q
  refine ⟨F, ρ, h, S, R, he.mo _ _ _ _ _ _ (fun x h1 z => ?_) (fun _ _ z => z) q⟩
  intro F1 H1 v e1 S1 r
  exact z F1 H1 _ e1 S1 ((R.ext e1).set r i)
end
/-! ### while -/
/-! ### what is walked -/
structure ItD (K : PySem.W.Frag) (F : Hp) (J : It) (xs : List D) (st : AH → Prop) : Prop where
  go : ∀ {i F' h H}, Ext F F' → Sim K F' h H → st h → i < xs.length → J.go i H
  stop : ∀ {i F' h H}, Ext F F' → Sim K F' h H → st h → xs.length = i → J.stop i H
  yld : ∀ {i F' h H x H' d}, Ext F F' → Sim K F' h H → st h → J.yld i H x H' → xs[i]? = some d → ∃ F'', Ext F' F'' ∧ Sim K F'' h H' ∧ Rep K F'' d x
abbrev WI := EnvD → AH → (List D → (AH → Prop) → AH → Prop) → KX → Prop
def MoI (w : WI) : Prop := ∀ ρ h Q Q' X X', (∀ xs st h, Q xs st h → Q' xs st h) → (∀ x h, X x h → X' x h) → w ρ h Q X → w ρ h Q' X'
def LI (K : PySem.W.Frag) (F : Hp) (R : It → Hp → Prop) : List D → (AH → Prop) → AH → Prop := fun xs st h => ∀ F' H' J, Ext F F' → Sim K F' h H' → ItD K F' J xs st → R J H'
def tI (K : PySem.W.Frag) (E : XK) (w : WI) : TI := fun σ H R => ∃ F ρ h, Sim K F h H ∧ EnvR K F ρ σ ∧ w ρ h (LI K F R) (LX K F E)
structure AI (X : Cx) (E : XK) (tg iter : Expr) (w : WI) : Prop where
  run : PI X tg iter (tI X.K E w)
  mo : MoI w
theorem PI.imp {X : Cx} {tg e : Expr} {t t' : TI} (p : PI X tg e t) (h : ∀ σ H Q, t' σ H Q → t σ H Q) : PI X tg e t' := ⟨fun pins s σ H Q I q => p.run pins s σ H Q I (h _ _ _ q)⟩
def loopD (st : AH → Prop) (g : WG) (tb : WS) (Z : EndsD) : List D → EnvD → AH → Prop
  | [], ρ, h => st h ∧ Z.nx ρ h
  | x :: r, ρ, h => st h ∧ g x ρ h (fun ρ2 h2 => tb { Z with nx := loopD st g tb Z r, ct := loopD st g tb Z r, bk := Z.nx } ρ2 h2) Z.ex
def wFor (wi : WI) (g : WG) (tb : WS) : WS := fun D ρ h => wi ρ h (fun xs st h1 => loopD st g tb D xs ρ h1) D.ex
theorem loopD_mo {st : AH → Prop} {g : WG} {tb : WS} (mg : MoG g) (mb : MoS tb) {Z Z' : EndsD} (l : Z.Le Z') : ∀ (xs : List D) (ρ : EnvD) (h : AH), loopD st g tb Z xs ρ h → loopD st g tb Z' xs ρ h
  | [], ρ, h, q => ⟨q.1, l.nx _ _ q.2⟩
  | x :: r, ρ, h, q => ⟨q.1, mg _ _ _ _ _ _ _ (fun ρ2 h2 z => mb { Z with nx := loopD st g tb Z r, ct := loopD st g tb Z r, bk := Z.nx } _ _ _ ⟨fun _ _ z => loopD_mo mg mb l r _ _ z, l.rt, fun _ _ z => l.nx _ _ z, fun _ _ z => loopD_mo mg mb l r _ _ z, l.ex⟩ z) l.ex q.2⟩
section
variable {X : Cx} {E : XK} {k : Nat} {e tg iter : Expr} {pos : Pos} {body : List Stmt} {tb : WS} {wi : WI} {g : WG}
theorem as_for (c : Cg gz X E k) (hi : AI X E tg iter wi) (hg : AG X E tg g) (hb : ASs X E body tb) (hs : ∀ x, foldedSetIterable iter X.env x = pure x := by intro _; rfl) : AS X E (.For tg iter body [] pos) (wFor wi g tb) := by
  refine ⟨PS.imp (ps_for c.po c.calm hi.run hg.run hb.run hs) fun D σ H ⟨F, ρ, h, S, R, q⟩ => ?_, fun D D' ρ h l q => hi.mo _ _ _ _ _ _ (fun xs st h z => loopD_mo hg.mo hb.mo l _ _ _ z) l.ex q⟩
  refine ⟨F, ρ, h, S, R, hi.mo _ _ _ _ _ _ (fun xs st h1 z => ?_) (fun _ _ z => z) q⟩
  intro F1 H1 J e1 S1 it
  refine ⟨fun i m σ H => m = xs.length - i ∧ i ≤ xs.length ∧ ∃ F2 ρ2 h2, Ext F1 F2 ∧ Sim X.K F2 h2 H ∧ EnvR X.K F2 ρ2 σ ∧ loopD st g tb (LD X.K F D E) (xs.drop i) ρ2 h2, ⟨xs.length, by simp, Nat.zero_le _, F1, ρ, h1, .refl _, S1, R.ext e1, by simpa using z⟩, ?_⟩
  rintro i m σ2 H2 ⟨rfl, hi2, F2, ρ2, h2, e2, S2, R2, z2⟩
  by_cases lt : i < xs.length
  · rw [List.drop_eq_getElem_cons lt] at z2
    obtain ⟨hst, z2⟩ := z2
    refine .inr ⟨it.go e2 S2 hst lt, fun σ' H' => ∃ F3 ρ3 h3, Ext F1 F3 ∧ Sim X.K F3 h3 H' ∧ EnvR X.K F3 ρ3 σ' ∧ loopD st g tb (LD X.K F D E) (xs.drop (i + 1)) ρ3 h3, fun σ' H' p => ⟨xs.length - (i + 1), by omega, rfl, lt, p⟩, fun x H' y => ?_⟩
    obtain ⟨F3, e3, S3, r3⟩ := it.yld e2 S2 hst y (List.getElem?_eq_getElem lt)
    have e13 := e1.trans (e2.trans e3)
    refine ⟨F3, ρ2, h2, _, S3, R2.ext e3, r3, hg.mo _ _ _ _ _ _ _ (fun ρ4 h4 z4 => ?_) (fun _ _ z => LX.ext e13 z) z2⟩
    intro F4 H4 σ4 e4 S4 R4
    have e14 := e13.trans e4
    refine ⟨F4, ρ4, h4, S4, R4, hb.mo _ _ _ _ ⟨fun ρ5 h5 z5 F5 H5 σ5 e5 S5 R5 => ⟨F5, ρ5, h5, (e2.trans e3).trans (e4.trans e5), S5, R5, z5⟩, fun _ _ z => LQ.ext e14 z, fun _ _ z => LS.ext e14 z, fun ρ5 h5 z5 F5 H5 σ5 e5 S5 R5 => ⟨F5, ρ5, h5, (e2.trans e3).trans (e4.trans e5), S5, R5, z5⟩, fun _ _ z => LX.ext e14 z⟩ z4⟩
  · have e : i = xs.length := by omega
    subst e
    rw [List.drop_length] at z2
    exact .inl ⟨it.stop e2 S2 z2.1 rfl, z2.2 F2 H2 σ2 (e1.trans e2) S2 R2⟩
/-! sources -/
def iSeq (wa : WE) : WI := fun ρ h R X => wa ρ h (fun x h1 => match x with
  | .lst xs => R xs (fun _ => True) h1
  | .ref a => ∃ xs, h1 a = some (.lst xs) ∧ R xs (fun h => h a = some (.lst xs)) h1
  | _ => False) X
def iTupD (wa : WE) : WI := fun ρ h R X => wa ρ h (fun x h1 => match x with
  | .tup xs => R xs (fun _ => True) h1
  | .tpl xs => R xs (fun _ => True) h1
  | _ => False) X
def intsD (lo : Int) (n : Nat) : List D := (List.range n).map fun i => D.int (lo + (i : Nat))
def iRng1 (wl : WA) : WI := fun ρ h R X => wl ρ h (fun ds h1 => match ds with
  | [.int j] => -(2 ^ 62) ≤ j ∧ j < 2 ^ 62 ∧ R (intsD 0 j.toNat) (fun _ => True) h1
  | _ => False) X
def iRng2 (wl : WA) : WI := fun ρ h R X => wl ρ h (fun ds h1 => match ds with
  | [.int i, .int j] => (-(2 ^ 62) ≤ i ∧ i < 2 ^ 62 ∧ -(2 ^ 62) ≤ j ∧ j < 2 ^ 62) ∧ R (intsD i (j - i).toNat) (fun _ => True) h1
  | _ => False) X
theorem ItD.list {K : PySem.W.Frag} {F : Hp} {a : Addr} {xs : List D} {st : AH → Prop} (h : ∀ {F' h H}, Ext F F' → Sim K F' h H → st h → ∃ vs, SqL K H a vs ∧ Reps K F' xs vs) : ItD K F (Itl K a) xs st where
  go := fun {i F' h0 H} e S s l => by
    obtain ⟨vs, q, r⟩ := h e S s
    obtain ⟨v, hv, _⟩ := r.get (List.getElem?_eq_getElem l)
    exact ⟨vs, v, q, hv⟩
  stop := fun {i F' h0 H} e S s l => by
    obtain ⟨vs, q, r⟩ := h e S s
    exact ⟨vs, q, by rw [← r.length]; exact Nat.le_of_eq l⟩
  yld := fun {i F' h0 H x H' d} e S s y hd => by
    obtain ⟨rfl, y⟩ := y
    obtain ⟨vs, q, r⟩ := h e S s
    obtain ⟨v, hv, rv⟩ := r.get hd
    have := y vs q
    rw [hv] at this; cases this
    exact ⟨F', .refl _, S, rv⟩
theorem ItD.tup {K : PySem.W.Frag} {F : Hp} {a : Addr} {xs : List D} {vs : List V} (q : SqT K F a vs) (r : Reps K F xs vs) : ItD K F (Itt K a) xs (fun _ => True) where
  go := fun {i F' h0 H} e S s l => by
    obtain ⟨v, hv, _⟩ := r.get (List.getElem?_eq_getElem l)
    exact ⟨vs, v, sqt_of S.fz (e.sqt q), hv⟩
  stop := fun {i F' h0 H} e S s l => ⟨vs, sqt_of S.fz (e.sqt q), by rw [← r.length]; exact Nat.le_of_eq l⟩
  yld := fun {i F' h0 H x H' d} e S s y hd => by
    obtain ⟨rfl, y⟩ := y
    obtain ⟨v, hv, rv⟩ := r.get hd
    have := y vs (sqt_of S.fz (e.sqt q))
    rw [hv] at this; cases this
    exact ⟨F', .refl _, S, rv.ext e⟩
theorem intsD_len {lo : Int} {n : Nat} : (intsD lo n).length = n := by simp [intsD]
theorem intsD_get {lo : Int} {n i : Nat} {d : D} (h : (intsD lo n)[i]? = some d) : d = .int (lo + (i : Nat)) ∧ i < n := by
  unfold intsD at h
  rw [List.getElem?_map] at h
  by_cases c : i < n
  · rw [List.getElem?_range c] at h
    cases h; exact ⟨rfl, c⟩
  · rw [List.getElem?_eq_none (by simpa using c)] at h; cases h
theorem ItD.rng {K : PySem.W.Frag} {F : Hp} {lo : Int} {n : Nat} : ItD K F (Itr lo n) (intsD lo n) (fun _ => True) where
  go := fun {i F' h0 H} e S s l => by rw [intsD_len] at l; exact l
  stop := fun {i F' h0 H} e S s l => by rw [intsD_len] at l; exact Nat.le_of_eq l
  yld := fun {i F' h0 H x H' d} e S s y hd => by
    obtain ⟨rfl, rfl⟩ := y
    obtain ⟨rfl, _⟩ := intsD_get hd
    exact ⟨F', .refl _, S, .int _⟩
variable {wa : WE} {wl : WA} {es : List Expr} {p : Pos}
theorem ai_list {l : Expr} (hl : AE X E l wa) : AI X E tg l (iSeq wa) := by
  refine ⟨PI.imp (pi_list hl.run) fun σ H R ⟨F, ρ, g, S, Rr, q⟩ => ?_, fun ρ h Q Q' X X' hq hx q => hl.mo _ _ _ _ _ _ (fun x h1 z => ?_) hx q⟩
  · refine ⟨F, ρ, g, S, Rr, hl.mo _ _ _ _ _ _ (fun x h1 z => ?_) (fun _ _ z => z) q⟩
    intro F1 H1 v e1 S1 r
    split at z
    · cases r with
      | @lst a xs vs hf rs =>
        exact ⟨a, rfl, ⟨vs, .of (S1.fz _ _ hf)⟩, z F1 H1 _ e1 S1 (ItD.list fun {F' h0 H0} e S _ => ⟨vs, .of (S.fz _ _ (e _ _ hf)), rs.ext e⟩)⟩
    · rename_i a
      obtain ⟨xs, hx, z⟩ := z
      cases r
      obtain ⟨_, u, hu, vs, rfl, rs⟩ := S1.ob _ _ hx
      refine ⟨a, rfl, ⟨vs, .of hu⟩, z F1 H1 _ e1 S1 (ItD.list fun {F' h0 H0} e S st => ?_)⟩
      obtain ⟨_, u', hu', vs', rfl, rs'⟩ := S.ob _ _ st
      exact ⟨vs', .of hu', rs'⟩
    · exact z.elim
  · split at z
    · exact hq _ _ _ z
    · obtain ⟨xs, hx, z⟩ := z
      exact ⟨xs, hx, hq _ _ _ z⟩
    · exact z.elim
theorem ai_tup {l : Expr} (hl : AE X E l wa) : AI X E tg l (iTupD wa) := by
  refine ⟨PI.imp (pi_tup hl.run) fun σ H R ⟨F, ρ, g, S, Rr, q⟩ => ?_, fun ρ h Q Q' X X' hq hx q => hl.mo _ _ _ _ _ _ (fun x h1 z => ?_) hx q⟩
  · refine ⟨F, ρ, g, S, Rr, hl.mo _ _ _ _ _ _ (fun x h1 z => ?_) (fun _ _ z => z) q⟩
    intro F1 H1 v e1 S1 r
    split at z
    · cases r with
      | @tup a xs vs hf rs => exact ⟨a, rfl, ⟨vs, sqt_of S1.fz hf⟩, z F1 H1 _ e1 S1 (ItD.tup hf rs)⟩
    · cases r with
      | @tpl a ob xs vs hf hd rs => exact ⟨a, rfl, ⟨vs, sqt_of S1.fz (.inl (.inr ⟨_, hf⟩))⟩, z F1 H1 _ e1 S1 (ItD.tup (.inl (.inr ⟨_, hf⟩)) rs)⟩
    · exact z.elim
  · split at z
    · exact hq _ _ _ z
    · exact hq _ _ _ z
    · exact z.elim
theorem ai_rng1 {a : Expr} (hm : X.mg "range" = none) (ha : AA X E [a] wl) (hg : Gl X "range" := by rfl) (hs : starEach [a] X.env = [(false, eval a X.env)] := by rfl) : AI X E tg (.Call (.Name "range" p) [a] [] pos) (iRng1 wl) := by
  refine ⟨PI.imp (pi_range1 hg hm ha.run hs) fun σ H R ⟨F, ρ, g, S, Rr, q⟩ => ?_, fun ρ h Q Q' X X' hq hx q => ha.mo _ _ _ _ _ _ (fun ds h1 z => ?_) hx q⟩
  · refine ⟨F, ρ, g, S, Rr, ha.mo _ _ _ _ _ _ (fun ds h1 z => ?_) (fun _ _ z => z) q⟩
    intro F1 H1 vs e1 S1 rs
    split at z
    · cases rs with
      | cons r rs => cases rs; cases r; exact ⟨_, rfl, z.1, z.2.1, z.2.2 F1 H1 _ e1 S1 ItD.rng⟩
    · exact z.elim
  · split at z
    · exact ⟨z.1, z.2.1, hq _ _ _ z.2.2⟩
    · exact z.elim
theorem ai_rng2 {a b : Expr} (hm : X.mg "range" = none) (ha : AA X E [a, b] wl) (hg : Gl X "range" := by rfl) (hs : starEach [a, b] X.env = [(false, eval a X.env), (false, eval b X.env)] := by rfl) (hs2 : starEach [b] X.env = [(false, eval b X.env)] := by rfl) :
    AI X E tg (.Call (.Name "range" p) [a, b] [] pos) (iRng2 wl) := by
  refine ⟨PI.imp (pi_range2 hg hm ha.run hs hs2) fun σ H R ⟨F, ρ, g, S, Rr, q⟩ => ?_, fun ρ h Q Q' X X' hq hx q => ha.mo _ _ _ _ _ _ (fun ds h1 z => ?_) hx q⟩
  · refine ⟨F, ρ, g, S, Rr, ha.mo _ _ _ _ _ _ (fun ds h1 z => ?_) (fun _ _ z => z) q⟩
    intro F1 H1 vs e1 S1 rs
    split at z
    · cases rs with
      | cons r rs =>
        cases r
        cases rs with
        | cons r rs => cases rs; cases r; exact ⟨_, _, rfl, z.1, z.2 F1 H1 _ e1 S1 ItD.rng⟩
    · exact z.elim
  · split at z
    · exact ⟨z.1, hq _ _ _ z.2⟩
    · exact z.elim
end
end DL
namespace DL
open PySem PySem.Spec L2
def wipeD (ρ : EnvD) : List Nat → EnvD
  | [] => ρ
  | v :: vs => (wipeD ρ vs).set v none
theorem EnvR.wipe {K : PySem.W.Frag} {F : Hp} {ρ : EnvD} {σ : L2.St} (r : EnvR K F ρ σ) : ∀ vs : List Nat, EnvR K F (wipeD ρ vs) (L2.wipe σ vs)
  | [] => r
  | v :: vs => by
    have ih := EnvR.wipe r vs
    refine ⟨by simp [wipeD, L2.wipe, ih.1], fun i d e => ?_⟩
    show ∃ x, ((L2.wipe σ vs).set v none)[i]? = some (some x) ∧ _
    have e : ((wipeD ρ vs).set v none)[i]? = some (some d) := e
    by_cases c : v = i
    · subst c
      by_cases l : v < (wipeD ρ vs).length
      · rw [List.getElem?_set_self l] at e; cases e
      · rw [List.getElem?_eq_none (by simpa using l)] at e; cases e
    · rw [List.getElem?_set_ne c] at e ⊢
      exact ih.2 i d e
def rm (h : AH) (p : Addr) : AH := fun b => if b = p then none else h b
@[simp] theorem rm_up {h : AH} {p : Addr} {o : AO} : rm (up h p o) p = rm h p := by funext b; unfold rm up; split <;> rfl
theorem rm_none {h : AH} {p : Addr} (e : h p = none) : rm h p = h := by
  funext b; unfold rm; split
  · rename_i c; rw [c, e]
  · rfl
theorem rm_sub {h : AH} {p : Addr} : Sub (rm h p) h := fun a o e => by
  unfold rm at e; split at e
  · cases e
  · exact e
theorem rm_same {h : AH} {p : Addr} : rm h p p = none := by simp [rm]
/-- a target of a comprehension: names alone -/
structure GW (K : PySem.W.Frag) (vs : List Nat) (g : WG) (gv : TG) : Prop where
  to : ∀ {F h H d v ρ σ} {QD : EnvD → AH → Prop} {Q : L2.St → Hp → Prop}, Sim K F h H → Rep K F d v → EnvR K F ρ σ → g d ρ h QD (fun _ _ => False) →
    (∀ ρ2 σ2, EnvR K F ρ2 σ2 → QD ρ2 h → L2.wipe σ2 vs = L2.wipe σ vs → Q σ2 H) → gv v σ H Q
  mo : MoG g
theorem wipe_set {σ : L2.St} {i : Nat} {x : Option V} : ∀ {vs : List Nat}, i ∈ vs → L2.wipe (σ.set i x) vs = L2.wipe σ vs
  | v :: vs, h => by
    show (L2.wipe (σ.set i x) vs).set v none = (L2.wipe σ vs).set v none
    by_cases c : i ∈ vs
    · rw [wipe_set c]
    · have e : v = i := by rcases List.mem_cons.mp h with e | e; exact e.symm; exact absurd e c
      subst e
      have : ∀ {ws : List Nat}, L2.wipe (σ.set v x) ws = (L2.wipe σ ws).set v (if v ∈ ws then none else x) ∨ True := fun {ws} => .inr trivial
      apply List.ext_getElem?
      intro j
      by_cases ej : v = j
      · subst ej
        by_cases l : v < σ.length
        · rw [List.getElem?_set_self (by rw [L2.wipe_length, List.length_set]; exact l), List.getElem?_set_self (by rw [L2.wipe_length]; exact l)]
        · rw [List.getElem?_eq_none (by simp [L2.wipe_length]; omega), List.getElem?_eq_none (by simp [L2.wipe_length]; omega)]
      · rw [List.getElem?_set_ne ej, List.getElem?_set_ne ej]
        have q : ∀ (ws : List Nat) (a b : L2.St), (a.length = b.length) → (∀ j, v ≠ j → a[j]? = b[j]?) → ∀ j, v ≠ j → (L2.wipe a ws)[j]? = (L2.wipe b ws)[j]? := by
          intro ws
          induction ws with
          | nil => intro a b _ h j hj; exact h j hj
          | cons w ws ih =>
            intro a b hl h j hj
            show ((L2.wipe a ws).set w none)[j]? = ((L2.wipe b ws).set w none)[j]?
            by_cases c : w = j
            · subst c
              by_cases l : w < a.length
              · rw [List.getElem?_set_self (by rw [L2.wipe_length]; exact l), List.getElem?_set_self (by rw [L2.wipe_length, ← hl]; exact l)]
              · rw [List.getElem?_eq_none (by simp [L2.wipe_length]; omega), List.getElem?_eq_none (by simp [L2.wipe_length]; omega)]
            · rw [List.getElem?_set_ne c, List.getElem?_set_ne c]
              exact ih a b hl h j hj
        exact q vs _ _ (by simp) (fun j hj => by rw [List.getElem?_set_ne hj]) j ej
theorem gw_name {K : PySem.W.Frag} {vs : List Nat} {i : Nat} (hi : i ∈ vs) : GW K vs (gN i) (gName i) :=
  ⟨fun {F h H d v ρ σ QD Q} S r R q k => k _ _ (R.set r i) q (wipe_set hi), fun d ρ h Q Q' X X' hq _ q => hq _ _ q⟩
/-- i, j, .. : the names of a tuple target -/
def gsN : List Nat → WGs
  | [] => gsNil
  | i :: is => gsCons (gN i) (gsN is)
def gvN : List Nat → TGs
  | [] => L2.gNil
  | i :: is => L2.gCons (gName i) (gvN is)
theorem gw_names {K : PySem.W.Frag} {vs : List Nat} : ∀ {is : List Nat}, (∀ i ∈ is, i ∈ vs) → ∀ {F h H ds us ρ σ} {QD : EnvD → AH → Prop} {Q : L2.St → Hp → Prop}, Sim K F h H → Reps K F ds us → EnvR K F ρ σ → gsN is ds ρ h QD (fun _ _ => False) →
    (∀ ρ2 σ2, EnvR K F ρ2 σ2 → QD ρ2 h → L2.wipe σ2 vs = L2.wipe σ vs → Q σ2 H) → gvN is us σ H Q
  | [], _, F, h, H, ds, us, ρ, σ, QD, Q, S, r, R, q, k => by
    obtain ⟨rfl, q⟩ := q
    cases r
    exact ⟨rfl, k ρ σ R q rfl⟩
  | i :: is, hi, F, h, H, ds, us, ρ, σ, QD, Q, S, r, R, q, k => by
    obtain ⟨d, ds', rfl, q⟩ := q
    cases r with
    | cons r rr =>
      refine ⟨_, _, rfl, ?_⟩
      refine gw_names (is := is) (fun j hj => hi j (List.mem_cons_of_mem _ hj)) S rr (R.set r i) q fun ρ2 σ2 R2 q2 e2 => k ρ2 σ2 R2 q2 (e2.trans (wipe_set (hi i (List.mem_cons_self ..))))
theorem mo_gsN : ∀ is : List Nat, MoGs (gsN is)
  | [] => fun d ρ h Q Q' X X' hq _ q => ⟨q.1, hq _ _ q.2⟩
  | i :: is => fun d ρ h Q Q' X X' hq hx ⟨x, xs, e, q⟩ => ⟨x, xs, e, mo_gsN is _ _ _ _ _ _ _ hq hx q⟩
theorem mo_gT {n : Nat} {r : WGs} (m : MoGs r) : MoG (gT n r) := fun d ρ h Q Q' X X' hq hx ⟨xs, e, l, q⟩ => ⟨xs, e, l, m _ _ _ _ _ _ _ hq hx q⟩
theorem gw_tup {K : PySem.W.Frag} {vs : List Nat} {is : List Nat} (hi : ∀ i ∈ is, i ∈ vs) : GW K vs (gT is.length (gsN is)) (gTup K is.length (gvN is)) := by
  refine ⟨fun {F h H d v ρ σ QD Q} S r R q k => ?_, mo_gT (mo_gsN is)⟩
  obtain ⟨xs, rfl, l, q⟩ := q
  cases r with
  | @tup a _ us hs rs => exact ⟨a, us, rfl, sqt_of S.fz hs, by rw [← rs.length]; exact l, gw_names hi S rs R q k⟩
def compD (st : AH → Prop) (g : WG) (tt : WT) (te : WE) (vs : List Nat) (ρ : EnvD) (p : Addr) : List D → AH → (AH → Prop) → Prop
  | [], h, Q => st h ∧ Q h
  | x :: r, h, Q => st h ∧ g x (wipeD ρ vs) h (fun ρ2 h2 => tt ρ2 h2 (fun b h3 => if b = true then te ρ2 h3 (fun y h4 => ∃ acc, h4 p = some (.lst acc) ∧ acc.length < sizeLine ∧ compD st g tt te vs ρ p r (up h4 p (.lst (acc ++ [y]))) Q) (fun _ _ => False) else compD st g tt te vs ρ p r h3 Q) (fun _ _ => False)) (fun _ _ => False)
/-- what becomes of the list that a comprehension made -/
def endL (m : Bool) (p : Addr) (Q : KD) : AH → Prop := fun h => ∃ acc, h p = some (.lst acc) ∧ if m = true then Q (.ref p) h else Q (.lst acc) (rm h p)
def wLc (m : Bool) (wi : WI) (g : WG) (tt : WT) (te : WE) (vs : List Nat) : WE := fun ρ h Q X => wi ρ h (fun xs st h1 => ∀ p, h1 p = none → compD st g tt te vs ρ p xs (up h1 p (.lst [])) (endL m p Q)) X
def wYes : WT := fun _ h Q _ => Q true h
theorem mo_yes : MoT wYes := fun ρ h Q Q' X X' hq _ q => hq _ _ q
theorem compD_mo {st : AH → Prop} {g : WG} {tt : WT} {te : WE} {vs : List Nat} {ρ : EnvD} {p : Addr} (mg : MoG g) (mt : MoT tt) (me : MoE te) {Q Q' : AH → Prop} (hq : ∀ h, Q h → Q' h) : ∀ (xs : List D) (h : AH), compD st g tt te vs ρ p xs h Q → compD st g tt te vs ρ p xs h Q'
  | [], h, q => ⟨q.1, hq _ q.2⟩
  | x :: r, h, q => ⟨q.1, mg _ _ _ _ _ _ _ (fun ρ2 h2 z => mt _ _ _ _ _ _ (fun b h3 z => by
      split at z
      · rename_i c; rw [if_pos c]; exact me _ _ _ _ _ _ (fun y h4 ⟨acc, e, l, z⟩ => ⟨acc, e, l, compD_mo mg mt me hq r _ z⟩) (fun _ _ z => z) z
      · rename_i c; rw [if_neg c]; exact compD_mo mg mt me hq r _ z) (fun _ _ z => z) z) (fun _ _ z => z) q.2⟩
theorem endL_mo {m : Bool} {p : Addr} {Q Q' : KD} (hq : ∀ d h, Q d h → Q' d h) : ∀ h, endL m p Q h → endL m p Q' h := fun h ⟨acc, e, z⟩ => ⟨acc, e, by
  split at z
  · rename_i c; rw [if_pos c]; exact hq _ _ z
  · rename_i c; rw [if_neg c]; exact hq _ _ z⟩
theorem endL_to {K : PySem.W.Frag} {F : Hp} {h : AH} {H : Hp} {m : Bool} {p : Addr} {Q : VK} (S : Sim K F h H) (q : endL m p (LQ K F Q) h) : Q (.ref p) H := by
  obtain ⟨acc, e, q⟩ := q
  split at q
  · exact q.at S (.ref p)
  · obtain ⟨f, u, hu, us, rfl, rs⟩ := S.ob _ _ e
    obtain ⟨e2, S2⟩ := S.frz e hu rm_same rm_sub
    exact q _ _ _ e2 S2 (.lst upd_same (rs.ext e2))
theorem mo_lc {m : Bool} {wi : WI} {g : WG} {tt : WT} {te : WE} {vs : List Nat} (mi : MoI wi) (mg : MoG g) (mt : MoT tt) (me : MoE te) : MoE (wLc m wi g tt te vs) := fun ρ h Q Q' X X' hq hx q =>
  mi _ _ _ _ _ _ (fun xs st h1 z p hp => compD_mo mg mt me (endL_mo hq) _ _ (z p hp)) hx q
/-- the tests of a clause -/
structure ATs (X : Cx) (E : XK) (ifs : List Expr) (w : WT) : Prop where
  run : PTs X ifs (tT X.K E w)
  mo : MoT w
theorem ats_nil {X : Cx} {E : XK} : ATs X E [] wYes := ⟨⟨fun pins s σ H Q I ⟨F, ρ, h, S, R, q⟩ => pts_nil.run pins s σ H Q I (q F H (.refl F) S)⟩, mo_yes⟩
theorem ats_one {X : Cx} {E : XK} {c : Expr} {w : WT} (h : AT X E c w) : ATs X E [c] w := ⟨pts_one h.run, h.mo⟩
section
variable {X : Cx} {E : XK} {k : Nat} {elt tg iter : Expr} {ifs : List Expr} {scope : Scope} {own : List (Str × Nat)} {pos : Pos} {wi : WI} {g : WG} {gv : TG} {tt : WT} {te : WE}
/-- the block of a comprehension: nothing is let out of it -/
abbrev Blk (X : Cx) (scope : Scope) (s : Shared) (H : Hp) (C : Addr) (cl : List (Str × Addr)) (fp : List Addr) : Cx := X.blk s H scope (compEnvC scope cl C X.env) fp
theorem cg_blk (c : Cg gz X E k) (s : Shared) (H : Hp) (C : Addr) (cl : List (Str × Addr)) (fp : List Addr) (po : PassesOwn (model X.prog X.w) X.A (compEnvC scope cl C X.env) (fun _ _ => False) := PassesOwn.never) : Cg gz (Blk X scope s H C cl fp) E0 k :=
  ⟨c.room, c.gd, c.calm, c.nd, passL, po⟩
theorem to_lc {m : Bool} (mi : MoI wi) (mg : MoG g) (mt : MoT tt) (me : MoE te) (gw : GW X.K (own.map (·.2)) g gv) {σ : L2.St} {H : Hp} {Q : VK} (h : tE X.K E (wLc m wi g tt te (own.map (·.2))) σ H Q) :
    tLc (tI X.K E wi) gv (tT X.K E0 tt) (tE X.K E0 te) (own.map (·.2)) σ H Q := by
  obtain ⟨F, ρ, h0, S, R, q⟩ := h
  refine ⟨F, ρ, h0, S, R, mi _ _ _ _ _ _ (fun xs st h1 z => ?_) (fun _ _ z => z) q⟩
  intro F1 H1 J e1 S1 it D hD
  obtain ⟨f1, g1⟩ := S1.free hD
  have z := z D g1
  refine ⟨fun i n H => n = xs.length - i ∧ i ≤ xs.length ∧ ∃ F2 h2, Ext F1 F2 ∧ Sim X.K F2 h2 H ∧ compD st g tt te (own.map (·.2)) ρ D (xs.drop i) h2 (endL m D (LQ X.K F2 Q)),
    ⟨xs.length, by simp, Nat.zero_le _, F1, _, .refl _, S1.newM hD (o := .lst []) ⟨[], rfl, .nil⟩, compD_mo mg mt me (endL_mo fun _ _ z => LQ.ext e1 z) _ _ (by simpa using z)⟩, ?_⟩
  rintro i n H2 ⟨rfl, hi, F2, h2, e2, S2, z2⟩
  by_cases lt : i < xs.length
  · rw [List.drop_eq_getElem_cons lt] at z2
    obtain ⟨hst, z2⟩ := z2
    refine .inr ⟨it.go e2 S2 hst lt, fun H' => ∃ F3 h3, Ext F1 F3 ∧ Sim X.K F3 h3 H' ∧ compD st g tt te (own.map (·.2)) ρ D (xs.drop (i + 1)) h3 (endL m D (LQ X.K F3 Q)), fun H' p => ⟨xs.length - (i + 1), by omega, rfl, lt, p⟩, fun x H' y => ?_⟩
    obtain ⟨F3, e3, S3, r3⟩ := it.yld e2 S2 hst y (List.getElem?_eq_getElem lt)
    have R3 := (R.ext (e1.trans (e2.trans e3))).wipe (own.map (·.2))
    refine gw.to S3 r3 R3 z2 fun ρ4 σ4 R4 z4 ew => ⟨?_, ?_⟩
    · rw [ew]
      have : ∀ vs : List Nat, L2.wipe (L2.wipe σ vs) vs = L2.wipe σ vs := by
        intro vs
        have key : ∀ (us vs : List Nat), (∀ u ∈ us, u ∈ vs) → L2.wipe (L2.wipe σ us) vs = L2.wipe σ vs := by
          intro us
          induction us with
          | nil => intro vs _; rfl
          | cons u us ih =>
            intro vs hu
            show L2.wipe ((L2.wipe σ us).set u none) vs = _
            rw [wipe_set (hu u (List.mem_cons_self ..)), ih vs fun w hw => hu w (List.mem_cons_of_mem _ hw)]
        exact key vs vs fun _ h => h
      rw [this]
    · refine ⟨F3, ρ4, h2, S3, R4, mt _ _ _ _ _ _ (fun b h5 z5 => ?_) (fun _ _ z => z.elim) z4⟩
      intro F5 H5 e5 S5
      split at z5
      · rename_i cb
        rw [if_pos cb]
        refine ⟨F5, ρ4, h5, S5, R4.ext e5, me _ _ _ _ _ _ (fun y h6 z6 => ?_) (fun _ _ z => z.elim) z5⟩
        intro F6 H6 v6 e6 S6 r6
        obtain ⟨acc, ea, la, z6⟩ := z6
        obtain ⟨fa, u, hu, us, rfl, rs⟩ := S6.ob _ _ ea
        exact ⟨us, hu, by rw [← rs.length]; exact la, F6, _, e2.trans (e3.trans (e5.trans e6)), S6.put ea (o := .lst (acc ++ [y])) ⟨_, rfl, rs.append (.cons r6 .nil)⟩, compD_mo mg mt me (endL_mo fun _ _ z => LQ.ext (e3.trans (e5.trans e6)) z) _ _ z6⟩
      · rename_i cb
        rw [if_neg cb]
        exact ⟨F5, _, e2.trans (e3.trans e5), S5, compD_mo mg mt me (endL_mo fun _ _ z => LQ.ext (e3.trans e5) z) _ _ z5⟩
  · have e : i = xs.length := by omega
    subst e
    rw [List.drop_length] at z2
    exact .inl ⟨it.stop e2 S2 z2.1 rfl, endL_to S2 z2.2⟩
theorem ae_lc (m : Bool) (c : Cg gz X E k) (hi : AI X E tg iter wi) (ok : BlkOk X.N X.env.scope scope own) (gw : GW X.K (own.map (·.2)) g gv)
    (hg : ∀ (s : Shared) (H : Hp) (C : Addr) (cl : List (Str × Addr)) (fp : List Addr), PG (Blk X scope s H C cl fp) tg gv)
    (ht : ∀ (s : Shared) (H : Hp) (C : Addr) (cl : List (Str × Addr)) (fp : List Addr), Cg gz (Blk X scope s H C cl fp) E0 k → ATs (Blk X scope s H C cl fp) E0 ifs tt)
    (he : ∀ (s : Shared) (H : Hp) (C : Addr) (cl : List (Str × Addr)) (fp : List Addr), Cg gz (Blk X scope s H C cl fp) E0 k → AE (Blk X scope s H C cl fp) E0 elt te)
    (hs : ∀ x, foldedSetIterable iter X.env x = pure x := by intro _; rfl) :
    AE X E (.ListComp elt [⟨tg, iter, ifs, 0⟩] scope pos) (wLc m wi g tt te (own.map (·.2))) :=
  have mg := gw.mo
  have mt := (ht X.s_0 X.H_0 0 [] [] (cg_blk c _ _ _ _ _)).mo
  have me := (he X.s_0 X.H_0 0 [] [] (cg_blk c _ _ _ _ _)).mo
  ⟨PE.imp (pe_lc (tt := tT X.K E0 tt) (te := tE X.K E0 te) c.calm c.nd hi.run ok hg (fun s H C cl fp => (ht s H C cl fp (cg_blk c s H C cl fp)).run) (fun s H C cl fp => (he s H C cl fp (cg_blk c s H C cl fp)).run) hs) fun σ H Q h => to_lc hi.mo mg mt me gw h, mo_lc hi.mo mg mt me⟩
theorem as_setLc (m : Bool) (i : Nat) {y : Str} {py spos : Pos} (c : Cg gz X E k) (hi : AI X E tg iter wi) (ok : BlkOk X.N X.env.scope scope own) (gw : GW X.K (own.map (·.2)) g gv)
    (hg : ∀ (s : Shared) (H : Hp) (C : Addr) (cl : List (Str × Addr)) (fp : List Addr), PG (Blk X scope s H C cl fp) tg gv)
    (ht : ∀ (s : Shared) (H : Hp) (C : Addr) (cl : List (Str × Addr)) (fp : List Addr), Cg gz (Blk X scope s H C cl fp) E0 k → ATs (Blk X scope s H C cl fp) E0 ifs tt)
    (he : ∀ (s : Shared) (H : Hp) (C : Addr) (cl : List (Str × Addr)) (fp : List Addr), Cg gz (Blk X scope s H C cl fp) E0 k → AE (Blk X scope s H C cl fp) E0 elt te)
    (hy : X.N[i]? = some y := by rfl) (hyl : X.env.scope.names.lookup y = some .local := by rfl)
    (hsw : swapsWith (.ListComp elt [⟨tg, iter, ifs, 0⟩] scope pos) (some (.Name y py)) spos.line X.env = pure true := by exact sw_true rfl rfl rfl (by decide +kernel))
    (hs : ∀ x, foldedSetIterable iter X.env x = pure x := by intro _; rfl) :
    AS X E (.Assign [.Name y py] (.ListComp elt [⟨tg, iter, ifs, 0⟩] scope pos) spos) (wAsg (wLc m wi g tt te (own.map (·.2))) (gN i)) := by
  have mg := gw.mo
  have mt := (ht X.s_0 X.H_0 0 [] [] (cg_blk c _ _ _ _ _)).mo
  have me := (he X.s_0 X.H_0 0 [] [] (cg_blk c _ _ _ _ _)).mo
  have P := ps_setLc (tt := tT X.K E0 tt) (te := tE X.K E0 te) (spos := spos) (pos := pos) (i := i) c.calm c.nd hy hyl hsw hi.run ok hg (fun s H C cl fp => (ht s H C cl fp (cg_blk c s H C cl fp)).run) (fun s H C cl fp => (he s H C cl fp (cg_blk c s H C cl fp)).run) hs
  have M := mo_lc (m := m) (vs := own.map (·.2)) hi.mo mg mt me
  refine ⟨PS.imp P fun D σ H h => ?_, mo_asg M fun d ρ h Q Q' X X' hq _ q => hq _ _ q⟩
  obtain ⟨F, ρ, h0, S, R, q⟩ := h
  refine to_lc (m := m) hi.mo mg mt me gw ⟨F, ρ, h0, S, R, M _ _ _ _ _ _ (fun x h1 z => ?_) (fun _ _ z => z) q⟩
  intro F1 H1 v e1 S1 r
  exact z F1 H1 _ e1 S1 ((R.ext e1).set r i)
end
end DL
namespace DL
open PySem PySem.Spec L2 C8
/-! ### subscripts -/
def dIx (x y : D) (h : AH) (Q : KD) : Prop := match y with
  | .int i => ∃ xs d, seqOf h x = some xs ∧ atI xs i = some d ∧ Q d h
  | _ => False
theorem Reps.atI {K : PySem.W.Frag} {F : Hp} {xs : List D} {vs : List V} {i : Int} {d : D} (r : Reps K F xs vs) (e : L2.atI xs i = some d) : ∃ v, L2.atI vs i = some v ∧ Rep K F d v := by
  unfold L2.atI at *
  rw [← r.length]
  cases q : ixN xs.length i with
  | none => rw [q] at e; cases e
  | some j =>
    rw [q] at e
    exact r.get (i := j) e
def rIxD2 (K : PySem.W.Frag) : R2 := fun x y H Q => rIxL K x y H Q ∨ rIxT K x y H Q
theorem ix_two {X : Cx} : IxR X (rIxD2 X.K) := IxR.or ix_list ix_tup
theorem dIx_ok {K : PySem.W.Frag} : OpD K (rIxD2 K) dIx where
  to := by
    intro F h H x y vx vy Q S rx ry q
    unfold dIx at q
    split at q
    · obtain ⟨xs, d, e1, e2, q⟩ := q
      cases ry
      obtain ⟨a, vs, rfl, hs, rs⟩ := S.seqOf rx e1
      obtain ⟨v, hv, rv⟩ := rs.atI e2
      rcases hs with hs | hs
      · exact .inl ⟨a, vs, _, v, rfl, rfl, hs, hv, q.at S rv⟩
      · exact .inr ⟨a, vs, _, v, rfl, rfl, hs, hv, q.at S rv⟩
    · exact q.elim
  mo := by
    intro x y h Q Q' hq q
    unfold dIx at *
    split at q
    · obtain ⟨xs, d, e1, e2, q⟩ := q
      exact ⟨xs, d, e1, e2, hq _ _ q⟩
    · exact q.elim
section
variable {X : Cx} {E : XK} {k : Nat} {a b e o i : Expr} {es : List Expr} {wa wb wo wi : WE} {wl : WA} {pos : Pos}
theorem ae_ix (ha : AE X E a wa) (hb : AE X E b wb) (hs : PlainIx b := by exact fun _ _ => rfl) : AE X E (.Subscript a b pos) (wOp dIx wa wb) :=
  ⟨PE.imp (pe_ix ix_two ha.run hb.run hs) fun σ H Q h => two dIx_ok ha hb h, mo_op (dIx_ok (K := X.K)).mo ha.mo hb.mo⟩
/-! ### slices -/
abbrev WO := EnvD → AH → (Option Int → AH → Prop) → KX → Prop
def woNone : WO := fun _ h Q _ => Q none h
def woSome (a : WE) : WO := fun ρ h Q X => a ρ h (fun x h1 => match x with
  | .int i => Q (some i) h1
  | _ => False) X
def MoO (w : WO) : Prop := ∀ ρ h Q Q' X X', (∀ d h, Q d h → Q' d h) → (∀ x h, X x h → X' x h) → w ρ h Q X → w ρ h Q' X'
def LO (K : PySem.W.Frag) (F : Hp) (Q : Option Int → Hp → Prop) : Option Int → AH → Prop := fun b h' => ∀ F' H', Ext F F' → Sim K F' h' H' → Q b H'
structure AO_ (X : Cx) (E : XK) (e : Option Expr) (w : WO) : Prop where
  run : PO X e (fun σ H Q => ∃ F ρ h, Sim X.K F h H ∧ EnvR X.K F ρ σ ∧ w ρ h (LO X.K F Q) (LX X.K F E))
  mo : MoO w
theorem ao_none : AO_ X E none woNone := by
  refine ⟨⟨fun pins s σ H Q I h => ?_⟩, fun ρ h Q Q' X X' hq _ q => hq _ _ q⟩
  obtain ⟨F, ρ, h, S, R, q⟩ := h
  exact po_none.run pins s σ H Q I (q F H (.refl F) S)
theorem ao_some (ha : AE X E a wa) : AO_ X E (some a) (woSome wa) := by
  refine ⟨⟨fun pins s σ H Q I h => ?_⟩, fun ρ h Q Q' X X' hq hx q => ha.mo _ _ _ _ _ _ (fun x h1 z => ?_) hx q⟩
  · obtain ⟨F, ρ, h, S, R, q⟩ := h
    refine (po_some ha.run).run pins s σ H Q I ⟨F, ρ, h, S, R, ha.mo _ _ _ _ _ _ (fun x h1 z => ?_) (fun _ _ z => z) q⟩
    intro F1 H1 v e1 S1 r
    split at z
    · cases r; exact ⟨_, rfl, z F1 H1 e1 S1⟩
    · exact z.elim
  · split at z
    · exact hq _ _ z
    · exact z.elim
def cutD {α : Type} (xs : List α) (lo hi : Option Int) : List α := (xs.drop (HT.sIx xs.length 0 lo)).take (HT.sIx xs.length xs.length hi - HT.sIx xs.length 0 lo)
theorem Reps.cut {K : PySem.W.Frag} {F : Hp} {xs : List D} {vs : List V} (r : Reps K F xs vs) (lo hi : Option Int) : Reps K F (cutD xs lo hi) (cutV vs lo hi) := by
  unfold cutD cutV
  rw [r.length]
  exact (r.drop _).take _
def dSl (m : Bool) (x : D) (lo hi : Option Int) (h : AH) (Q : KD) : Prop := match x with
  | .tup xs => Q (.tup (cutD xs lo hi)) h
  | .str s => s.length ≤ sizeLine ∧ Q (.str (Txt.slice s lo hi)) h
  | .ref a => match h a with
    | some (.lst xs) => newL m (cutD xs lo hi) h Q
    | some (.lck xs) => newL m (cutD xs lo hi) h Q
    | _ => False
  | .lst xs => newL m (cutD xs lo hi) h Q
  | .lk xs => newL m (cutD xs lo hi) h Q
  | _ => False
theorem dSl_mo {m : Bool} {x : D} {lo hi : Option Int} {h : AH} {Q Q' : KD} (hq : ∀ d h, Q d h → Q' d h) (q : dSl m x lo hi h Q) : dSl m x lo hi h Q' := by
  unfold dSl at *
  split at q
  · exact hq _ _ q
  · exact ⟨q.1, hq _ _ q.2⟩
  · split at q
    · exact newL_mo hq q
    · exact newL_mo hq q
    · exact q.elim
  · exact newL_mo hq q
  · exact newL_mo hq q
  · exact q.elim
def wSl (m : Bool) (a : WE) (lo hi : WO) : WE := fun ρ h Q X => a ρ h (fun x h1 => lo ρ h1 (fun l h2 => hi ρ h2 (fun u h3 => dSl m x l u h3 Q) X) X) X
def rSlD (K : PySem.W.Frag) : V → Option Int → Option Int → Hp → VK → Prop := fun x lo hi H Q => rSlA K x lo hi H Q ∨ (rSlX x lo hi H Q ∨ rSlL K x lo hi H Q)
theorem sl_all : SlR X (rSlD X.K) := SlR.or sl_tupA (SlR.or sl_txt sl_list)
theorem cut_whole {α : Type} {xs : List α} {lo hi : Option Int} (h : HT.sIx xs.length 0 lo = 0 ∧ HT.sIx xs.length xs.length hi = xs.length) : cutD xs lo hi = xs := by
  unfold cutD; rw [h.1, h.2]; simp
theorem dSl_to {K : PySem.W.Frag} {F : Hp} {h : AH} {H : Hp} {m : Bool} {x : D} {v : V} {lo hi : Option Int} {Q : VK} (S : Sim K F h H) (r : Rep K F x v) (q : dSl m x lo hi h (LQ K F Q)) : rSlD K v lo hi H Q := by
  unfold dSl at q
  split at q
  · cases r with
    | @tup a xs vs hs rs =>
      refine .inl ⟨a, vs, rfl, sqt_of S.fz hs, fun w => ?_, fun _ => S.newT (rs.cut lo hi) q⟩
      rw [cut_whole (by rw [rs.length]; exact w)] at q
      exact q.at S (.tup hs rs)
  · cases r; exact .inr (.inl ⟨_, rfl, q.1, q.2.at S (.str _)⟩)
  · rename_i a
    cases r
    split at q
    · rename_i xs e
      obtain ⟨_, u, hu, vs, rfl, rs⟩ := S.ob _ _ e
      exact .inr (.inr ⟨a, vs, rfl, .of hu, S.newL (rs.cut lo hi) q⟩)
    · rename_i xs e
      obtain ⟨_, u, hu, o, vs, rfl, rs⟩ := S.ob _ _ e
      exact .inr (.inr ⟨a, vs, rfl, .inl (.inr ⟨o, hu⟩), S.newL (rs.cut lo hi) q⟩)
    · exact q.elim
  · cases r with
    | @lst a xs vs hs rs => exact .inr (.inr ⟨a, vs, rfl, .of (S.fz _ _ hs), S.newL (rs.cut lo hi) q⟩)
  · cases r with
    | @lk a xs vs hs rs => exact .inr (.inr ⟨a, vs, rfl, Ext.sql S.fz hs, S.newL (rs.cut lo hi) q⟩)
  · exact q.elim
theorem ae_sl (m : Bool) {lo hi : Option Expr} {wlo whi : WO} {p2 : Pos} (ha : AE X E a wa) (hl : AO_ X E lo wlo) (hh : AO_ X E hi whi) : AE X E (.Subscript a (.Slice lo hi none p2) pos) (wSl m wa wlo whi) := by
  refine ⟨PE.imp (pe_slice sl_all ha.run hl.run hh.run) fun σ H Q ⟨F, ρ, g, S, R, q⟩ => ?_, fun ρ h Q Q' X X' hq hx q => ha.mo _ _ _ _ _ _ (fun x h1 z => hl.mo _ _ _ _ _ _ (fun l h2 z => hh.mo _ _ _ _ _ _ (fun u h3 z => dSl_mo hq z) hx z) hx z) hx q⟩
  refine ⟨F, ρ, g, S, R, ha.mo _ _ _ _ _ _ (fun x h1 z => ?_) (fun _ _ z => z) q⟩
  intro F1 H1 v e1 S1 r
  refine ⟨F1, ρ, h1, S1, R.ext e1, hl.mo _ _ _ _ _ _ (fun l h2 z => ?_) (fun _ _ z => LX.ext e1 z) z⟩
  intro F2 H2 e2 S2
  refine ⟨F2, ρ, h2, S2, R.ext (e1.trans e2), hh.mo _ _ _ _ _ _ (fun u h3 z => ?_) (fun _ _ z => LX.ext (e1.trans e2) z) z⟩
  intro F3 H3 e3 S3
  exact dSl_to S3 (r.ext (e2.trans e3)) (dSl_mo (fun _ _ z => LQ.ext (e1.trans (e2.trans e3)) z) z)
/-! ### x[i] = v, of a list -/
def gSubL (wo wi : WE) : WG := fun d ρ h Q X => wo ρ h (fun o h1 => wi ρ h1 (fun i h2 => ∃ a xs k j, o = .ref a ∧ i = .int k ∧ h2 a = some (.lst xs) ∧ ixN xs.length k = some j ∧ Q ρ (up h2 a (.lst (xs.set j d)))) X) X
theorem ag_subL (ho : AE X E o wo) (hi : AE X E i wi) (ha : ∀ v, assign (.Subscript o i pos) X.env v = (do
      let ov ← holding [v] (eval o X.env)
      let iv ← holding [v, ov] (eval i X.env)
      standAt pos
      holding [v, ov, iv] (setItem ov iv v)
      release [v, ov, iv] []) := by intro _; rfl) : AG X E (.Subscript o i pos) (gSubL wo wi) := by
  refine ⟨PG.imp (pg_sub ho.run hi.run set_list ha) fun v σ H Q ⟨F, ρ, g, d, S, R, r, q⟩ => ?_, fun d ρ h Q Q' X X' hq hx q => ho.mo _ _ _ _ _ _ (fun x h1 z => hi.mo _ _ _ _ _ _ (fun y h2 ⟨a, xs, k, j, e1, e2, e3, e4, z⟩ => ⟨a, xs, k, j, e1, e2, e3, e4, hq _ _ z⟩) hx z) hx q⟩
  refine ⟨F, ρ, g, S, R, ho.mo _ _ _ _ _ _ (fun x h1 z => ?_) (fun _ _ z => z) q⟩
  intro F1 H1 vo e1 S1 ro
  refine ⟨F1, ρ, h1, S1, R.ext e1, hi.mo _ _ _ _ _ _ (fun y h2 z => ?_) (fun _ _ z => LX.ext e1 z) z⟩
  intro F2 H2 vi e2 S2 ri
  obtain ⟨a, xs, k, j, rfl, rfl, ea, ej, z⟩ := z
  cases ri
  have ro2 := ro.ext e2
  cases ro2
  obtain ⟨_, u, hu, vs, rfl, rs⟩ := S2.ob _ _ ea
  exact ⟨a, vs, k, j, rfl, rfl, hu, by rw [← rs.length]; exact ej, z F2 _ σ (e1.trans e2) (S2.put ea (o := .lst (xs.set j d)) ⟨_, rfl, rs.set (r.ext (e1.trans e2)) j⟩) (R.ext (e1.trans e2))⟩
/-! ### methods of a list that changes it -/
structure MeD (K : PySem.W.Frag) (T : String) (rv : V → List V → Hp → VK → Prop) (f : D → List D → AH → KD → Prop) (ty : D → AH → Prop) : Prop where
  to : ∀ {F h H x xs vx vs} {Q : VK}, Sim K F h H → Rep K F x vx → Reps K F xs vs → f x xs h (LQ K F Q) → rv vx vs H Q
  ty : ∀ {F h H x vx}, Sim K F h H → Rep K F x vx → ty x h → tyV K T vx H
  mo : ∀ {x xs h} {Q Q' : KD}, (∀ d h, Q d h → Q' d h) → f x xs h Q → f x xs h Q'
def wMethT (ty : D → AH → Prop) (f : D → List D → AH → KD → Prop) (wo : WE) (wl : WA) : WE := fun ρ h Q X => wo ρ h (fun x h1 => ty x h1 ∧ wl ρ h1 (fun xs h2 => f x xs h2 Q) X) X
theorem ae_bm {T id : String} {name : Str} {rv : V → List V → Hp → VK → Prop} {f : D → List D → AH → KD → Prop} {ty : D → AH → Prop} {apos cpos : Pos} (M : MeD X.K T rv f ty) (hm : MtR X id rv)
    (pa : PlainAttrs T) (slot : Slot T name id) (hty : typeOf (.builtin id) = pure (.type "method_descriptor")) (ho : AE X E o wo) (ha : AA X E (e :: es) wl)
    (hbase : attributeBase o name X.env (eval o X.env) = eval o X.env := by rfl)
    (hfew : ((backTo cpos (starEach (e :: es) X.env)).all (fun x => !x.1) && (backToKw cpos (keywordEach [] X.env)).all (fun x => x.1.isSome)
      && decide ((e :: es).length + ([] : List Keyword).length + (if ([] : List Keyword).isEmpty then 0 else 1) < 30)) = true := by rfl)
    (hline : (apos.endLine == cpos.line) = true := by rfl) (hs : starEach (e :: es) X.env = (false, eval e X.env) :: starEach es X.env := by rfl) (hplain : (backTo cpos (starEach es X.env)).any (·.1) = false := by rfl) :
    AE X E (.Call (.Attribute o name apos) (e :: es) [] cpos) (wMethT ty f wo wl) := by
  refine ⟨PE.imp (pe_bm pa slot hty hm ho.run ha.run hbase hfew hline hs hplain) fun σ H Q ⟨F, ρ, g, S, R, q⟩ => ?_, fun ρ h Q Q' X X' hq hx q => ho.mo _ _ _ _ _ _ (fun x h1 z => ⟨z.1, ha.mo _ _ _ _ _ _ (fun xs h2 z => M.mo hq z) hx z.2⟩) hx q⟩
  refine ⟨F, ρ, g, S, R, ho.mo _ _ _ _ _ _ (fun x h1 z => ?_) (fun _ _ z => z) q⟩
  intro F1 H1 vx e1 S1 rx
  refine ⟨M.ty S1 rx z.1, F1, ρ, h1, S1, R.ext e1, ha.mo _ _ _ _ _ _ (fun xs h2 z => ?_) (fun _ _ z => LX.ext e1 z) z.2⟩
  intro F2 H2 vs e2 S2 rs
  exact M.to S2 (rx.ext e2) rs (M.mo (fun _ _ z => LQ.ext (e1.trans e2) z) z)
def isL (x : D) (h : AH) : Prop := ∃ xs, lstOf h x = some xs
theorem isL_ty {K : PySem.W.Frag} {F : Hp} {h : AH} {H : Hp} {x : D} {v : V} (S : Sim K F h H) (r : Rep K F x v) (t : isL x h) : tyV K "list" v H := by
  obtain ⟨xs, e⟩ := t
  obtain ⟨a, vs, rfl, ha, _⟩ := S.lstOf r e
  exact .inl ⟨rfl, vs, .of ha⟩
def dAppend (x : D) (ys : List D) (h : AH) (Q : KD) : Prop := ∃ a xs y, x = .ref a ∧ ys = [y] ∧ h a = some (.lst xs) ∧ xs.length < sizeLine ∧ Q .non (up h a (.lst (xs ++ [y])))
theorem dAppend_ok {K : PySem.W.Frag} : MeD K "list" rAppend dAppend isL where
  ty := isL_ty
  mo := fun hq ⟨a, xs, y, e1, e2, e3, e4, q⟩ => ⟨a, xs, y, e1, e2, e3, e4, hq _ _ q⟩
  to := by
    rintro F h H x ys vx vs Q S rx rs ⟨a, xs, y, rfl, rfl, e, l, q⟩
    cases rx
    cases rs with
    | cons r rs =>
      cases rs
      obtain ⟨_, u, hu, us, rfl, ru⟩ := S.ob _ _ e
      exact ⟨a, us, _, rfl, rfl, hu, by rw [← ru.length]; exact l, q F _ _ (.refl F) (S.put e (o := .lst (xs ++ [y])) ⟨_, rfl, ru.append (.cons r .nil)⟩) .non⟩
theorem ae_append {apos cpos : Pos} (ho : AE X E o wo) (ha : AA X E [e] wl) (hbase : attributeBase o "append" X.env (eval o X.env) = eval o X.env := by rfl)
    (hfew : ((backTo cpos (starEach [e] X.env)).all (fun x => !x.1) && (backToKw cpos (keywordEach [] X.env)).all (fun x => x.1.isSome) && decide ([e].length + ([] : List Keyword).length + (if ([] : List Keyword).isEmpty then 0 else 1) < 30)) = true := by rfl)
    (hline : (apos.endLine == cpos.line) = true := by rfl) (hs : starEach [e] X.env = (false, eval e X.env) :: starEach [] X.env := by rfl) (hplain : (backTo cpos (starEach [] X.env)).any (·.1) = false := by rfl) :
    AE X E (.Call (.Attribute o "append" apos) [e] [] cpos) (wMethT isL dAppend wo wl) :=
  ae_bm dAppend_ok mt_append PySem.F.plainAttrs_list PySem.F.slot_list_append PySem.F.type_list_append ho ha hbase hfew hline hs hplain
end
/-! ### built-ins -/
def lenD (h : AH) (x : D) : Option Nat := match cur h x with
  | .tup xs => some xs.length
  | .tpl xs => some xs.length
  | .lst xs => some xs.length
  | .dK xs => some xs.length
  | .str s => some s.length
  | _ => none
def dLen (ds : List D) (h : AH) (Q : KD) : Prop := match ds with
  | [.str s] => s.length ≤ sizeLine ∧ Q (.int s.length) h
  | [x] => ∃ n, lenD h x = some n ∧ Q (.int (n : Nat)) h
  | _ => False
def dAbs (ds : List D) (h : AH) (Q : KD) : Prop := match ds with
  | [.int i] => Q (.int (if i < 0 then -i else i)) h
  | _ => False
def dInt (ds : List D) (h : AH) (Q : KD) : Prop := match ds with
  | [.int i] => Q (.int i) h
  | [.bl b] => Q (.int (if b then 1 else 0)) h
  | _ => False
def dSum (ds : List D) (h : AH) (Q : KD) : Prop := ∃ (x : D) (ns : List Int), ds = [x] ∧ lstOf h x = some (ns.map D.int) ∧ Q (.int ns.sum) h
def dMax1 (ds : List D) (h : AH) (Q : KD) : Prop := ∃ (x : D) (ns : List Int), ds = [x] ∧ lstOf h x = some (ns.map D.int) ∧ 0 < ns.length ∧ ∀ m, m ∈ ns → (∀ y ∈ ns, y ≤ m) → Q (.int m) h
def dMin1 (ds : List D) (h : AH) (Q : KD) : Prop := ∃ (x : D) (ns : List Int), ds = [x] ∧ lstOf h x = some (ns.map D.int) ∧ 0 < ns.length ∧ ∀ m, m ∈ ns → (∀ y ∈ ns, m ≤ y) → Q (.int m) h
def dListOf (m : Bool) (ds : List D) (h : AH) (Q : KD) : Prop := ∃ x xs, ds = [x] ∧ seqOf h x = some xs ∧ newL m xs h Q
def dTupOf (ds : List D) (h : AH) (Q : KD) : Prop := ∃ x xs, ds = [x] ∧ seqOf h x = some xs ∧ Q (.tup xs) h
def tyD (h : AH) (x : D) : Option String := match cur h x with
  | .non => some "NoneType"
  | .bl _ => some "bool"
  | .int _ => some "int"
  | .str _ => some "str"
  | .tup _ => some "tuple"
  | .tpl _ => some "tuple"
  | .lst _ => some "list"
  | .dK _ => some "dict"
  | .dT _ => some "dict"
  | _ => none
def dIsi (ds : List D) (h : AH) (Q : KD) : Prop := ∃ x t n b, ds = [x, .ty n] ∧ tyD h x = some t ∧ L2.kitB t n = some b ∧ Q (.bl b) h
def dRepr (ds : List D) (h : AH) (Q : KD) : Prop := ∃ x, ds = [x] ∧ dat (cur h x) = true ∧ (pd (cur h x)).showable = true ∧ (pd (cur h x)).depth ≤ 60 ∧ (pd (cur h x)).shown.length ≤ sizeLine ∧ Q (.str (pd (cur h x)).shown) h
end DL
namespace DL
open PySem PySem.Spec L2 C8
section
variable {K : PySem.W.Frag} {F : Hp} {h : AH} {H : Hp}
theorem Reps.one {d : D} {vs : List V} (r : Reps K F [d] vs) : ∃ v, vs = [v] ∧ Rep K F d v := by
  cases r with | cons r rs => cases rs; exact ⟨_, rfl, r⟩
theorem Reps.two {d e : D} {vs : List V} (r : Reps K F [d, e] vs) : ∃ v w, vs = [v, w] ∧ Rep K F d v ∧ Rep K F e w := by
  cases r with | cons r rs => cases rs with | cons q qs => cases qs; exact ⟨_, _, rfl, r, q⟩
theorem Reps.ints : ∀ {ns : List Int} {vs : List V}, Reps K F (ns.map D.int) vs → vs = ns.map V.int
  | [], _, .nil => rfl
  | n :: ns, _, .cons r t => by cases r; rw [Reps.ints t]; rfl
theorem Sim.intsOf {x : D} {v : V} {ns : List Int} (S : Sim K F h H) (r : Rep K F x v) (e : DL.lstOf h x = some (ns.map D.int)) : ∃ a, v = .ref a ∧ SqL K H a (ns.map V.int) := by
  obtain ⟨a, vs, rfl, ha, rs⟩ := S.lstOf r e
  rw [rs.ints] at ha
  exact ⟨a, rfl, .of ha⟩
end
section
variable {X : Cx}
theorem dAbs_ok : CaD X (.builtin "abs") dAbs where
  ex := ⟨_, call_abs, fun {F h H ds vs Q} S r q => by
    unfold dAbs at q; split at q
    · obtain ⟨v, rfl, r1⟩ := r.one; cases r1; exact ⟨_, rfl, q.at S (.int _)⟩
    · exact q.elim⟩
  mo := fun {ds h Q Q'} hq q => by
    unfold dAbs at *; split at q
    · exact hq _ _ q
    · exact q.elim
theorem dInt_ok : CaD X (.type "int") dInt where
  ex := ⟨_, call_int1, fun {F h H ds vs Q} S r q => by
    unfold dInt at q; split at q
    · obtain ⟨v, rfl, r1⟩ := r.one; cases r1; exact .inl ⟨_, rfl, q.at S (.int _)⟩
    · obtain ⟨v, rfl, r1⟩ := r.one; cases r1; exact .inr ⟨_, rfl, q.at S (.int _)⟩
    · exact q.elim⟩
  mo := fun {ds h Q Q'} hq q => by
    unfold dInt at *; split at q
    · exact hq _ _ q
    · exact hq _ _ q
    · exact q.elim
theorem dSum_ok (hc : X.calm = true) : CaD X (.builtin "sum") dSum where
  ex := ⟨_, cr_sum hc, fun {F h H ds vs Q} S r q => by
    obtain ⟨x, ns, rfl, e, q⟩ := q
    obtain ⟨v, rfl, r1⟩ := r.one
    obtain ⟨a, rfl, ha⟩ := S.intsOf r1 e
    exact ⟨a, ns, rfl, ha, q.at S (.int _)⟩⟩
  mo := fun {ds h Q Q'} hq ⟨x, ns, e, e2, q⟩ => ⟨x, ns, e, e2, hq _ _ q⟩
theorem dMax1_ok (hc : X.calm = true) : CaD X (.builtin "max") dMax1 where
  ex := ⟨_, cr_max hc, fun {F h H ds vs Q} S r q => by
    obtain ⟨x, ns, rfl, e, l, q⟩ := q
    obtain ⟨v, rfl, r1⟩ := r.one
    obtain ⟨a, rfl, ha⟩ := S.intsOf r1 e
    exact ⟨a, ns, rfl, ha, l, fun m hm hy => (q m hm hy).at S (.int _)⟩⟩
  mo := fun {ds h Q Q'} hq ⟨x, ns, e, e2, l, q⟩ => ⟨x, ns, e, e2, l, fun m hm hy => hq _ _ (q m hm hy)⟩
theorem dMin1_ok (hc : X.calm = true) : CaD X (.builtin "min") dMin1 where
  ex := ⟨_, cr_min hc, fun {F h H ds vs Q} S r q => by
    obtain ⟨x, ns, rfl, e, l, q⟩ := q
    obtain ⟨v, rfl, r1⟩ := r.one
    obtain ⟨a, rfl, ha⟩ := S.intsOf r1 e
    exact ⟨a, ns, rfl, ha, l, fun m hm hy => (q m hm hy).at S (.int _)⟩⟩
  mo := fun {ds h Q Q'} hq ⟨x, ns, e, e2, l, q⟩ => ⟨x, ns, e, e2, l, fun m hm hy => hq _ _ (q m hm hy)⟩
theorem dListOf_ok {m : Bool} : CaD X (.type "list") (dListOf m) where
  ex := ⟨_, call_list_of, fun {F h H ds vs Q} S r q => by
    obtain ⟨x, xs, rfl, e, q⟩ := q
    obtain ⟨v, rfl, r1⟩ := r.one
    obtain ⟨a, us, rfl, ha, rs⟩ := S.seqOf r1 e
    exact ⟨a, us, rfl, ha, S.newL rs q⟩⟩
  mo := fun {ds h Q Q'} hq ⟨x, ns, e, e2, q⟩ => ⟨x, ns, e, e2, newL_mo hq q⟩
theorem dTupOf_ok : CaD X (.type "tuple") dTupOf where
  ex := ⟨_, call_tuple_of, fun {F h H ds vs Q} S r q => by
    obtain ⟨x, xs, rfl, e, q⟩ := q
    obtain ⟨v, rfl, r1⟩ := r.one
    by_cases c : ∃ ys, x = .tup ys
    · obtain ⟨ys, rfl⟩ := c
      cases e
      cases r1 with
      | @tup a _ ws hs rs => exact ⟨a, ws, rfl, .inr ⟨sqt_of S.fz hs, q.at S (.tup hs rs)⟩⟩
    by_cases c2 : ∃ ys, x = .tpl ys
    · obtain ⟨ys, rfl⟩ := c2
      cases e
      cases r1 with
      | @tpl a _ _ ws hs _ rs => exact ⟨a, ws, rfl, .inr ⟨sqt_of S.fz (.inl (.inr ⟨_, hs⟩)), q.at S (.tup (.inl (.inr ⟨_, hs⟩)) rs)⟩⟩
    · have e' : lstOf h x = some xs := by
        cases x <;> first | exact e | exact absurd ⟨_, rfl⟩ c | exact absurd ⟨_, rfl⟩ c2
      obtain ⟨a, us, rfl, ha, rs⟩ := S.lstOf r1 e'
      exact ⟨a, us, rfl, .inl ⟨.of ha, S.newT rs q⟩⟩⟩
  mo := fun {ds h Q Q'} hq ⟨x, ns, e, e2, q⟩ => ⟨x, ns, e, e2, hq _ _ q⟩
def rLenD (K : PySem.W.Frag) : List V → Hp → VK → Prop := fun xs H Q => (∃ z, xs = [V.str z] ∧ z.length ≤ sizeLine ∧ Q (.int z.length) H) ∨ ((∃ p ys, xs = [V.ref p] ∧ (SqL K H p ys ∨ SqT K H p ys) ∧ Q (.int ys.length) H) ∨ ∃ a kvs, xs = [V.ref a] ∧ H a = some (.dK kvs) ∧ Q (.int kvs.length) H)
theorem RepK.length {K : PySem.W.Frag} {F : Hp} : ∀ {xs : List (Key × D)} {vs : List (Key × V)}, RepK K F xs vs → xs.length = vs.length
  | _, _, .nil => rfl
  | _, _, .cons _ t => by simp [RepK.length t]
theorem dLen_ok : CaD X (.builtin "len") dLen where
  ex := ⟨rLenD X.K, CallR.or call_len_str (CallR.or call_len_seq call_lenD), fun {F h H ds vs Q} S r q => by
    unfold dLen at q
    split at q
    · obtain ⟨v, rfl, r1⟩ := r.one; cases r1
      exact .inl ⟨_, rfl, q.1, q.2.at S (.int _)⟩
    · obtain ⟨n, e, q⟩ := q
      obtain ⟨v, rfl, r1⟩ := r.one
      cases r1 with
      | ref a =>
        cases ea : h a with
        | none => simp [lenD, cur, ea] at e
        | some o =>
          obtain ⟨_, u, hu, ro⟩ := S.ob _ _ ea
          cases o with
          | lst xs =>
            obtain ⟨us, rfl, rs⟩ := ro
            simp only [lenD, cur, ea, Option.some.injEq] at e
            subst e
            exact .inr (.inl ⟨a, us, rfl, .inl (.of hu), by rw [← rs.length]; exact q.at S (.int _)⟩)
          | dK xs =>
            obtain ⟨us, rfl, rs⟩ := ro
            simp only [lenD, cur, ea, Option.some.injEq] at e
            subst e
            exact .inr (.inr ⟨a, us, rfl, hu, by rw [← rs.length]; exact q.at S (.int _)⟩)
          | dT _ => simp [lenD, cur, ea] at e
          | ins _ _ => simp [lenD, cur, ea] at e
          | lck _ => simp [lenD, cur, ea] at e
          | tab _ => simp [lenD, cur, ea] at e
      | @tup a xs us hs rs =>
        simp only [lenD, cur, Option.some.injEq] at e
        subst e
        exact .inr (.inl ⟨a, us, rfl, .inr (sqt_of S.fz hs), by rw [← rs.length]; exact q.at S (.int _)⟩)
      | @tpl a ob xs us hs hd rs =>
        simp only [lenD, cur, Option.some.injEq] at e
        subst e
        exact .inr (.inl ⟨a, us, rfl, .inr (sqt_of S.fz (.inl (.inr ⟨_, hs⟩))), by rw [← rs.length]; exact q.at S (.int _)⟩)
      | @lst a xs us hs rs =>
        simp only [lenD, cur, Option.some.injEq] at e
        subst e
        exact .inr (.inl ⟨a, us, rfl, .inl (.of (S.fz _ _ hs)), by rw [← rs.length]; exact q.at S (.int _)⟩)
      | @dK a xs us hs rs =>
        simp only [lenD, cur, Option.some.injEq] at e
        subst e
        exact .inr (.inr ⟨a, us, rfl, S.fz _ _ hs, by rw [← rs.length]; exact q.at S (.int _)⟩)
      | dT _ _ => simp [lenD, cur] at e
      | str s => rename_i hn; exact absurd rfl (hn s)
      | non => simp [lenD, cur] at e
      | bl _ => simp [lenD, cur] at e
      | int _ => simp [lenD, cur] at e
      | ty _ => simp [lenD, cur] at e
      | lk _ _ => simp [lenD, cur] at e
      | ob _ _ => simp [lenD, cur] at e
      | xob0 _ => simp [lenD, cur] at e
      | lam _ _ => simp [lenD, cur] at e
      | xob _ _ _ => simp [lenD, cur] at e
    · exact q.elim⟩
  mo := fun {ds h Q Q'} hq q => by
    unfold dLen at *; split at q
    · exact ⟨q.1, hq _ _ q.2⟩
    · obtain ⟨n, e, q⟩ := q; exact ⟨n, e, hq _ _ q⟩
    · exact q.elim
/-- the type of a value -/
theorem Sim.tyD {K : PySem.W.Frag} {F : Hp} {h : AH} {H : Hp} {x : D} {v : V} {t : String} (S : Sim K F h H) (r : Rep K F x v) (e : DL.tyD h x = some t) : TyX K H v (.type t) := by
  cases r with
  | ref a =>
    cases ea : h a with
    | none => simp [DL.tyD, cur, ea] at e
    | some o =>
      obtain ⟨_, u, hu, ro⟩ := S.ob _ _ ea
      cases o with
      | lst xs => obtain ⟨us, rfl, rs⟩ := ro; simp only [DL.tyD, cur, ea, Option.some.injEq] at e; subst e; exact .base (.lst hu)
      | dK xs => obtain ⟨us, rfl, rs⟩ := ro; simp only [DL.tyD, cur, ea, Option.some.injEq] at e; subst e; exact .base (.dK hu)
      | dT xs => obtain ⟨us, rfl, rs⟩ := ro; simp only [DL.tyD, cur, ea, Option.some.injEq] at e; subst e; exact .base (.dT hu)
      | ins _ _ => simp [DL.tyD, cur, ea] at e
      | lck _ => simp [DL.tyD, cur, ea] at e
      | tab _ => simp [DL.tyD, cur, ea] at e
  | non => simp only [DL.tyD, cur, Option.some.injEq] at e; subst e; exact .base .non
  | bl b => simp only [DL.tyD, cur, Option.some.injEq] at e; subst e; exact .base (.bl b)
  | int i => simp only [DL.tyD, cur, Option.some.injEq] at e; subst e; exact .base (.int i)
  | str s => simp only [DL.tyD, cur, Option.some.injEq] at e; subst e; exact .base (.str s)
  | ty n => simp [DL.tyD, cur] at e
  | lk _ _ => simp [DL.tyD, cur] at e
  | ob _ _ => simp [DL.tyD, cur] at e
  | xob0 _ => simp [DL.tyD, cur] at e
  | lam _ _ => simp [DL.tyD, cur] at e
  | xob _ _ _ => simp [DL.tyD, cur] at e
  | tup hs rs =>
    simp only [DL.tyD, cur, Option.some.injEq] at e; subst e
    rcases sqt_of S.fz hs with (q | ⟨o, q⟩) | ⟨o, its, n, q, c, _⟩
    · exact .base (.tup q)
    · exact .fTuple q
    · exact .kTuple q c
  | tpl hs hd rs => simp only [DL.tyD, cur, Option.some.injEq] at e; subst e; exact .fTuple (S.fz _ _ hs)
  | lst hs rs => simp only [DL.tyD, cur, Option.some.injEq] at e; subst e; exact .base (.lst (S.fz _ _ hs))
  | dK hs rs => simp only [DL.tyD, cur, Option.some.injEq] at e; subst e; exact .base (.dK (S.fz _ _ hs))
  | dT hs rs => simp only [DL.tyD, cur, Option.some.injEq] at e; subst e; exact .base (.dT (S.fz _ _ hs))
theorem dIsi_ok : CaD X (.builtin "isinstance") dIsi where
  ex := ⟨_, call_isi, fun {F h H ds vs Q} S r q => by
    obtain ⟨x, t, n, b, rfl, et, eb, q⟩ := q
    obtain ⟨v, w, rfl, r1, r2⟩ := r.two
    cases r2
    exact ⟨v, .ty n, .type t, .type n, b, rfl, .ty n, S.tyD r1 et, kit_ty eb, q.at S (.bl _)⟩⟩
  mo := fun {ds h Q Q'} hq ⟨x, t, n, b, e, e1, e2, q⟩ => ⟨x, t, n, b, e, e1, e2, hq _ _ q⟩
/-! ### repr -/
theorem call_reprD (hg : X.A.guards = some []) (hu : X.A.units + 64 < cLine) : CallR X (.builtin "repr") (fun vs H Q => ∃ x d, vs = [x] ∧ Dp X.K H x d ∧ d.hasDict = false ∧ d.showable = true ∧ d.depth ≤ 60 ∧ d.shown.length ≤ sizeLine ∧ Q (.str d.shown) H) := by
  intro pins s σ H xs us Q I r h
  obtain ⟨x, d, rfl, hd, hn, hs, dp, hz, q⟩ := h
  obtain ⟨u, rfl, rx⟩ : ∃ u, us = [u] ∧ RelV x u := by cases r with | cons r t => cases t; exact ⟨_, rfl, r⟩
  obtain ⟨as, rd⟩ := Dp.reads I d x u hd rx
  cases rd with
  | none => exact PySem.P.repr_of_none ⟨.str _, H, I.tok _, ⟨_, rfl⟩, by rw [PyData.shown] at q; exact q⟩
  | bool b => exact PySem.P.repr_of_bool ⟨.str _, H, I.tok _, ⟨_, rfl⟩, by rw [PyData.shown] at q; exact q⟩
  | int i t =>
    refine PySem.P.repr_of_int (by rw [PyData.showable] at hs; exact of_decide_eq_true hs) ⟨.str _, H, I.tok _, ⟨_, rfl⟩, by rw [PyData.shown] at q; exact q⟩
  | str x t => exact PySem.P.repr_of_str ⟨.str _, H, I.tok _, ⟨_, rfl⟩, by rw [PyData.shown] at q; exact q⟩ (by rw [PyData.shown] at hz; exact hz)
  | list a b c e => exact repr_of_reads' (.list a b c e) hs (fun z => by rw [hn] at z; cases z) hg (by omega) (fun _ _ z => z) (fun h' u tk k => ⟨.str _, H, I.kept k, ⟨_, rfl⟩, q⟩) hz
  | tuple a b c e => exact repr_of_reads' (.tuple a b c e) hs (fun z => by rw [hn] at z; cases z) hg (by omega) (fun _ _ z => z) (fun h' u tk k => ⟨.str _, H, I.kept k, ⟨_, rfl⟩, q⟩) hz
  | dict _ _ _ _ _ => cases hd
mutual
theorem noDict : ∀ d : D, (pd d).hasDict = false
  | .non => by rw [pd, PyData.hasDict]
  | .bl _ => by rw [pd, PyData.hasDict]
  | .int _ => by rw [pd, PyData.hasDict]
  | .str _ => by rw [pd, PyData.hasDict]
  | .tup xs => by rw [pd, PyData.hasDict]; exact noDicts xs
  | .tpl xs => by rw [pd, PyData.hasDict]; exact noDicts xs
  | .lst xs => by rw [pd, PyData.hasDict]; exact noDicts xs
  | .ref _ => by rw [pd, PyData.hasDict]
  | .ty _ => by rw [pd, PyData.hasDict]
  | .lk _ => by rw [pd, PyData.hasDict]
  | .ob _ _ => by rw [pd, PyData.hasDict]
  | .xob _ _ => by rw [pd, PyData.hasDict]
  | .lam _ _ _ _ _ => by rw [pd, PyData.hasDict]
  | .dK _ => by rw [pd, PyData.hasDict]
  | .dT _ => by rw [pd, PyData.hasDict]
theorem noDicts : ∀ ds : List D, PyData.hasDictAll (pds ds) = false
  | [] => by rw [pds, PyData.hasDictAll]
  | d :: ds => by rw [pds, PyData.hasDictAll, noDict d, noDicts ds]; rfl
end
theorem dRepr_ok (hg : X.A.guards = some []) (hu : X.A.units + 64 < cLine) : CaD X (.builtin "repr") dRepr where
  ex := ⟨_, call_reprD hg hu, fun {F h H ds vs Q} S r q => by
    obtain ⟨x, rfl, e1, e2, e3, e4, q⟩ := q
    obtain ⟨v, rfl, r1⟩ := r.one
    exact ⟨v, _, rfl, S.curDp r1 e1, noDict _, e2, e3, e4, q.at S (.str _)⟩⟩
  mo := fun {ds h Q Q'} hq ⟨x, e, e1, e2, e3, e4, q⟩ => ⟨x, e, e1, e2, e3, e4, hq _ _ q⟩
end
end DL
namespace DL
open PySem PySem.Spec L2 C8
/-! ### one more built-in runs around -/
/-! ### d.items() as a value, d with keys that are ints or texts -/
def rItemsV : V → List V → Hp → VK → Prop := fun x xs H Q => ∃ (a : Addr) (kvs : List (Key × V)), x = .ref a ∧ xs = [] ∧ H a = some (.dK kvs) ∧ ∀ p, H p = none → Q (.ref p) (upd H p (L2.DX.itemsO p a))
section
variable {X : Cx}
theorem mt_itemsV : MtR X "dict.items" rItemsV := by
  intro pins s σ H x xs v us Q I rx rs h
  obtain ⟨a, kvs, rfl, rfl, ha, q⟩ := h
  cases rx
  cases rs
  obtain ⟨z, hd, vs, kv, o, es, ep, ho, hx, hdt, _⟩ := dk_of I.hok ha
  have hf : H s.heap.objs.size = none := I.hok.fresh (Nat.le_refl _)
  refine DT.callItems (es := es) (ep := ep) hd ⟨o, ho, hx, hdt⟩ ?_
  exact ⟨.ref s.heap.objs.size, _, I.laid (t' := s.toks) (fun b u e => Heap.get?_push_of_some _ e) (Nat.le_refl _) (L2.DX.itemsO_ok (Heap.get?_push_size _ rfl)), rfl, q _ hf⟩
end
end DL
namespace DL
open PySem PySem.Spec L2 C8
/-! ### dicts with keys that are ints or texts -/
def keyD : D → Option Key
  | .int i => some (.inl i)
  | .str s => some (.inr s)
  | _ => none
def valD (kvs : List (Key × D)) (k : Key) : Option D := (kvs.find? fun kv => decide (kv.1 = k)).map (·.2)
def putD (kvs : List (Key × D)) (k : Key) (v : D) : List (Key × D) :=
  if (kvs.any fun kv => decide (kv.1 = k)) = true then kvs.map (fun kv => if kv.1 = k then (kv.1, v) else kv) else kvs ++ [(k, v)]
def dkOf (h : AH) : D → Option (List (Key × D))
  | .dK xs => some xs
  | .ref a => match h a with
    | some (.dK xs) => some xs
    | _ => none
  | _ => none
section
variable {K : PySem.W.Frag} {F : Hp} {h : AH} {H : Hp} {d : D} {v : V}
theorem RepK.val : ∀ {kvs : List (Key × D)} {vs : List (Key × V)}, RepK K F kvs vs → ∀ k : Key, (valD kvs k = none ∧ valV vs k = none) ∨ ∃ d v, valD kvs k = some d ∧ valV vs k = some v ∧ Rep K F d v
  | _, _, .nil, k => .inl ⟨rfl, rfl⟩
  | _, _, @RepK.cons _ _ k0 x u xs us r t, k => by
    by_cases c : k0 = k
    · subst c
      exact .inr ⟨x, u, by simp [valD], by simp [valV], r⟩
    · have e1 : valD ((k0, x) :: xs) k = valD xs k := by simp [valD, List.find?_cons, c]
      have e2 : valV ((k0, u) :: us) k = valV us k := by simp [valV, List.find?_cons, c]
      rw [e1, e2]
      exact RepK.val t k
theorem RepK.keys : ∀ {kvs : List (Key × D)} {vs : List (Key × V)}, RepK K F kvs vs → kvs.map (·.1) = vs.map (·.1)
  | _, _, .nil => rfl
  | _, _, .cons _ t => by simp [RepK.keys t]
theorem RepK.append : ∀ {xs ys : List (Key × D)} {vs ws : List (Key × V)}, RepK K F xs vs → RepK K F ys ws → RepK K F (xs ++ ys) (vs ++ ws)
  | _, _, _, _, .nil, s => s
  | _, _, _, _, .cons h t, s => .cons h (RepK.append t s)
theorem RepK.any : ∀ {kvs : List (Key × D)} {vs : List (Key × V)}, RepK K F kvs vs → ∀ k : Key, (kvs.any fun kv => decide (kv.1 = k)) = (vs.any fun kv => decide (kv.1 = k))
  | _, _, .nil, _ => rfl
  | _, _, .cons _ t, k => by simp only [List.any_cons]; rw [RepK.any t k]
theorem RepK.repl {k : Key} {x : D} {u : V} (r : Rep K F x u) : ∀ {kvs : List (Key × D)} {vs : List (Key × V)}, RepK K F kvs vs → RepK K F (kvs.map fun kv => if kv.1 = k then (kv.1, x) else kv) (vs.map fun kv => if kv.1 = k then (kv.1, u) else kv)
  | _, _, .nil => .nil
  | _, _, @RepK.cons _ _ k0 y w ys ws q t => by
    simp only [List.map_cons]
    by_cases c : k0 = k
    · rw [if_pos c, if_pos c]; exact .cons r (RepK.repl r t)
    · rw [if_neg c, if_neg c]; exact .cons q (RepK.repl r t)
theorem RepK.put {kvs : List (Key × D)} {vs : List (Key × V)} (t : RepK K F kvs vs) (k : Key) {x : D} {u : V} (r : Rep K F x u) : RepK K F (putD kvs k x) (putK vs k u) := by
  unfold putD putK
  rw [t.any k]
  split
  · exact RepK.repl r t
  · exact t.append (.cons r .nil)
theorem keyD_to {d : D} {v : V} {k : Key} (r : Rep K F d v) (e : keyD d = some k) : v = kV k := by
  cases r <;> first | (simp [keyD] at e; done) | (simp only [keyD, Option.some.injEq] at e; subst e; rfl)
theorem Sim.dkOf {kvs : List (Key × D)} (S : Sim K F h H) (r : Rep K F d v) (e : DL.dkOf h d = some kvs) : ∃ a vs, v = .ref a ∧ H a = some (.dK vs) ∧ RepK K F kvs vs := by
  cases r with
  | ref a =>
    cases q : h a with
    | none => simp [DL.dkOf, q] at e
    | some o =>
      cases o with
      | dK ys =>
        simp only [DL.dkOf, q, Option.some.injEq] at e
        subst e
        obtain ⟨_, u, hu, vs, rfl, rs⟩ := S.ob _ _ q
        exact ⟨a, vs, rfl, hu, rs⟩
      | lst _ => simp [DL.dkOf, q] at e
      | dT _ => simp [DL.dkOf, q] at e
      | ins _ _ => simp [DL.dkOf, q] at e
      | lck _ => simp [DL.dkOf, q] at e
      | tab _ => simp [DL.dkOf, q] at e
  | @dK a ys vs hf rs =>
    cases e
    exact ⟨a, vs, rfl, S.fz _ _ hf, rs⟩
  | non => cases e
  | bl _ => cases e
  | int _ => cases e
  | str _ => cases e
  | ty _ => cases e
  | lk _ _ => cases e
  | ob _ _ => cases e
  | xob0 _ => cases e
  | lam _ _ => cases e
  | xob _ _ _ => cases e
  | tup _ _ => cases e
  | tpl _ _ _ => cases e
  | lst _ _ => cases e
  | dT _ _ => cases e
/-- what stands anew behind a call is taken as what does not change -/
theorem Sim.grow {H' : Hp} (S : Sim K F h H) (sm : ∀ b o, H b = some o → H' b = some o) (P : Addr → Bool) : ∃ F', Ext F F' ∧ Sim K F' h H' ∧ (∀ b, H b = none → P b = true → F' b = H' b) ∧ ∀ b, H b = none → P b = false → ∀ o, F' b ≠ some o := by
  refine ⟨fun b => if (H b).isNone = true ∧ P b = true then H' b else F b, fun b o e => ?_, ⟨fun b o e => ?_, fun b o e => ?_⟩, fun b e p => ?_, fun b e p o q => ?_⟩
  · have : H b = some o := S.fz _ _ e
    show (if (H b).isNone = true ∧ P b = true then H' b else F b) = some o
    rw [this]; simp [e]
  · split at e
    · exact e
    · exact sm _ _ (S.fz _ _ e)
  · obtain ⟨f, u, hu, r⟩ := S.ob _ _ e
    refine ⟨by simp [hu, f], u, sm _ _ hu, r.ext fun c w q => ?_⟩
    have : H c = some w := S.fz _ _ q
    simp [this, q]
  · simp [e, p]
  · simp [p, (S.free e).1] at q
end
section
variable {X : Cx} {E : XK} {k : Nat} {o i e f value : Expr} {wo wi we wf wv : WE} {pos cpos apos pos' p : Pos}
def wDnew : WE := fun _ h Q _ => ∀ p, h p = none → Q (.ref p) (up h p (.dK []))
theorem ae_dnew : AE X E (.Dict [] [] pos) wDnew := by
  refine ⟨PE.imp pe_dnewK fun σ H Q ⟨F, ρ, h, S, R, q⟩ => ?_, fun ρ h Q Q' X X' hq _ q p e => hq _ _ (q p e)⟩
  intro p hp
  obtain ⟨f, g⟩ := S.free hp
  exact q p g F _ _ (.refl F) (S.newM hp (o := .dK []) ⟨[], rfl, .nil⟩) (.ref p)
/-- d.get(k, x) -/
def wGet2 (wo wi wx : WE) : WE := fun ρ h Q X => wo ρ h (fun x h1 => (dkOf h1 x).isSome = true ∧ wi ρ h1 (fun y h2 => wx ρ h2 (fun z h3 => ∃ kvs k, dkOf h3 x = some kvs ∧ keyD y = some k ∧ Q ((valD kvs k).getD z) h3) X) X) X
theorem ae_get2 (c : Cg gz X E k) (ho : AE X E o wo) (he : AE X E e we) (hf : AE X E f wf) (m : M2 X o "get" apos e f cpos) : AE X E (.Call (.Attribute o "get" apos) [e, f] [] cpos) (wGet2 wo we wf) := by
  refine ⟨PE.imp (pe_dget2 (hu_of c.room) ho.run he.run hf.run m) fun σ H Q ⟨F, ρ, h, S, R, q⟩ => ?_, fun ρ h Q Q' X X' hq hx q => ho.mo _ _ _ _ _ _ (fun x h1 z => ⟨z.1, he.mo _ _ _ _ _ _ (fun y h2 z => hf.mo _ _ _ _ _ _ (fun w h3 ⟨kvs, k, e1, e2, z⟩ => ⟨kvs, k, e1, e2, hq _ _ z⟩) hx z) hx z.2⟩) hx q⟩
  refine ⟨F, ρ, h, S, R, ho.mo _ _ _ _ _ _ (fun x h1 z => ?_) (fun _ _ z => z) q⟩
  intro F1 H1 v e1 S1 r
  obtain ⟨kv0, hk0⟩ := Option.isSome_iff_exists.mp z.1
  obtain ⟨a, vs, rfl, ha, rs⟩ := S1.dkOf r hk0
  refine ⟨a, rfl, .inl ⟨vs, .of ha⟩, F1, ρ, h1, S1, R.ext e1, he.mo _ _ _ _ _ _ (fun y h2 z => ?_) (fun _ _ z => LX.ext e1 z) z.2⟩
  intro F2 H2 vy e2 S2 ry
  refine ⟨F2, ρ, h2, S2, R.ext (e1.trans e2), hf.mo _ _ _ _ _ _ (fun w h3 z => ?_) (fun _ _ z => LX.ext (e1.trans e2) z) z⟩
  intro F3 H3 vw e3 S3 rw'
  obtain ⟨kvs, kk, ek, ey, z⟩ := z
  obtain ⟨a', vs', ea, ha', rs'⟩ := S3.dkOf (r.ext (e2.trans e3)) ek
  cases ea
  have hy := keyD_to (ry.ext e3) ey
  have e123 := e1.trans (e2.trans e3)
  rcases rs'.val kk with ⟨n1, n2⟩ | ⟨d, v, n1, n2, rv⟩
  · refine ⟨none, .inl ⟨vs', kk, .of ha', hy, n2.symm⟩, ?_⟩
    rw [n1] at z
    exact z F3 H3 _ e123 S3 rw'
  · refine ⟨some v, .inl ⟨vs', kk, .of ha', hy, n2.symm⟩, ?_⟩
    rw [n1] at z
    exact z F3 H3 _ e123 S3 rv
/-- d[k] -/
def wDGet (wo wi : WE) : WE := fun ρ h Q X => wo ρ h (fun x h1 => wi ρ h1 (fun y h2 => ∃ kvs k d, dkOf h2 x = some kvs ∧ keyD y = some k ∧ valD kvs k = some d ∧ Q d h2) X) X
theorem ae_dget (c : Cg gz X E k) (ho : AE X E o wo) (hi : AE X E i wi) (hs : NoSl i) : AE X E (.Subscript o i pos) (wDGet wo wi) := by
  refine ⟨PE.imp (pe_dget (hu_of c.room) ho.run hi.run hs) fun σ H Q ⟨F, ρ, h, S, R, q⟩ => ?_, fun ρ h Q Q' X X' hq hx q => ho.mo _ _ _ _ _ _ (fun x h1 z => hi.mo _ _ _ _ _ _ (fun y h2 ⟨kvs, k, d, e1, e2, e3, z⟩ => ⟨kvs, k, d, e1, e2, e3, hq _ _ z⟩) hx z) hx q⟩
  refine ⟨F, ρ, h, S, R, ho.mo _ _ _ _ _ _ (fun x h1 z => ?_) (fun _ _ z => z) q⟩
  intro F1 H1 v e1 S1 r
  refine ⟨F1, ρ, h1, S1, R.ext e1, hi.mo _ _ _ _ _ _ (fun y h2 z => ?_) (fun _ _ z => LX.ext e1 z) z⟩
  intro F2 H2 vy e2 S2 ry
  obtain ⟨kvs, kk, d, ek, ey, ed, z⟩ := z
  obtain ⟨a, vs, rfl, ha, rs⟩ := S2.dkOf (r.ext e2) ek
  rcases rs.val kk with ⟨n1, n2⟩ | ⟨d', v, n1, n2, rv⟩
  · rw [n1] at ed; cases ed
  · rw [n1] at ed; cases ed
    exact ⟨a, v, rfl, .inl ⟨vs, kk, .of ha, keyD_to ry ey, n2.symm⟩, z F2 H2 _ (e1.trans e2) S2 rv⟩
/-- d[k] = v -/
def wDput (wo wi wv : WE) : WS := fun D ρ h => wv ρ h (fun z h1 => wo ρ h1 (fun x h2 => wi ρ h2 (fun y h3 => ∃ a kvs k, x = .ref a ∧ h3 a = some (.dK kvs) ∧ keyD y = some k ∧ kvs.length < sizeLine ∧ D.nx ρ (up h3 a (.dK (putD kvs k z)))) D.ex) D.ex) D.ex
theorem as_dput (c : Cg gz X E k) (ho : AE X E o wo) (hi : AE X E i wi) (hv : AE X E value wv) (hs : swapsWith value (some (.Subscript o i pos')) pos.line X.env = pure false := by rfl) : AS X E (.Assign [.Subscript o i pos'] value pos) (wDput wo wi wv) := by
  refine ⟨PS.imp (ps_dput (hu_of c.room) ho.run hi.run hv.run hs) fun D σ H ⟨F, ρ, h, S, R, q⟩ => ?_, fun D D' ρ h l q => hv.mo _ _ _ _ _ _ (fun z h1 q => ho.mo _ _ _ _ _ _ (fun x h2 q => hi.mo _ _ _ _ _ _ (fun y h3 ⟨a, kvs, k, e1, e2, e3, e4, q⟩ => ⟨a, kvs, k, e1, e2, e3, e4, l.nx _ _ q⟩) l.ex q) l.ex q) l.ex q⟩
  refine ⟨F, ρ, h, S, R, hv.mo _ _ _ _ _ _ (fun z h1 q => ?_) (fun _ _ z => z) q⟩
  intro F1 H1 vz e1 S1 rz
  refine ⟨F1, ρ, h1, S1, R.ext e1, ho.mo _ _ _ _ _ _ (fun x h2 q => ?_) (fun _ _ z => LX.ext e1 z) q⟩
  intro F2 H2 vx e2 S2 rx
  refine ⟨F2, ρ, h2, S2, R.ext (e1.trans e2), hi.mo _ _ _ _ _ _ (fun y h3 q => ?_) (fun _ _ z => LX.ext (e1.trans e2) z) q⟩
  intro F3 H3 vy e3 S3 ry
  obtain ⟨a, kvs, kk, rfl, ea, ey, l, q⟩ := q
  have rx := rx.ext e3
  cases rx
  obtain ⟨_, u, hu, vs, rfl, rs⟩ := S3.ob _ _ ea
  have hy := keyD_to ry ey
  subst hy
  exact ⟨a, _, rfl, .inl ⟨vs, kk, hu, rfl, by rw [← rs.length]; exact l, rfl⟩, q F3 _ σ (e1.trans (e2.trans e3)) (S3.put ea (o := .dK (putD kvs kk z)) ⟨_, rfl, rs.put kk (rz.ext (e2.trans e3))⟩) (R.ext (e1.trans (e2.trans e3)))⟩
/-! ### sorted(d.items()), ints to ints -/
def pairD (e : Int × Int) : D := .tup [.int e.1, .int e.2]
end
end DL
namespace PySem
set_option maxHeartbeats 1000000 in
theorem dl_meets_enum1 {v : Value} {o : Obj} {H : Heap → Prop} (B : Begins v o H) :
    Meets (Builtin.«enumerate.__new__» ⟨[.type "enumerate", v], []⟩) (fun _ R s => H s.heap ∧
      R (.ok (.ret (.ref (s.heap.push o).objs.size))) { s with heap := (s.heap.push o).push { cls := .type "enumerate", data := .fields #[.none, .bool false, .ref s.heap.objs.size, rawInt 0, .none, .none] } }) :=
  .of_wp fun prog w A R s h => by
    obtain ⟨hp, gg, dd, tk, os⟩ := s; obtain ⟨h1, h⟩ := h
    have se := sub_enumerate
    have go : ∀ {A' : Around} {E : Value → Shared → Prop} {Q : Value → Shared → Prop}, Q (.ref hp.objs.size) ⟨hp.push o, gg, dd, tk, os⟩ → wpAny (model prog w) A' (pyIter v) Q E ⟨hp, gg, dd, tk, os⟩ :=
      fun q => B.iter prog w _ _ ⟨hp, gg, dd, tk, os⟩ _ h1 q
    wp_walk using go
    refine wpAny_stack_any fun st => wpAny_pure ?_
    split
    · rename_i c _ _ _ _ _
      cases (c == Value.type "enumerate") <;> (wp_walk using go; exact ⟨_, rfl, h⟩)
    · wp_walk using go
      exact ⟨_, rfl, h⟩
section
variable {prog : Program} {w : World} {A : Around} {E : Value → Shared → Prop} {s : Shared}
theorem dl_call_enum {v : Value} {o : Obj} {H : Heap → Prop} {Q : Value → Shared → Prop} (B : Begins v o H) (h1 : H s.heap)
    (h : ∀ h', IsEnum h' (s.heap.objs.size + 1) s.heap.objs.size 0 .none → h'.get? s.heap.objs.size = some o → (∀ b o, s.heap.get? b = some o → h'.get? b = some o) → Q (.ref (s.heap.objs.size + 1)) { s with heap := h' }) :
    wpAny (model prog w) A (call (.type "enumerate") [v]) Q E s := by
  refine callType_new F.called_enumerate (by decide) (F.typeCall_enumerate_1 _) (F.newCall_enumerate_1 _) (fun obj => F.args_object_init_2 obj _) F.entry_enumerate_new (dl_meets_enum1 B) ⟨h1, ?_⟩
  have z : (s.heap.push o).objs.size = s.heap.objs.size + 1 := Heap.size_push ..
  have he := Heap.get?_push_size (s.heap.push o) (o := { cls := .type "enumerate", data := .fields #[.none, .bool false, .ref s.heap.objs.size, rawInt 0, .none, .none] }) rfl
  show _ ∧ _
  rw [z] at he ⊢
  exact ⟨⟨_, he, rfl⟩, h _ he (Heap.get?_push_of_some _ (Heap.get?_push_size _ B.free)) fun b o x => Heap.get?_push_of_some _ (Heap.get?_push_of_some _ x)⟩
end
end PySem
namespace DL
open PySem PySem.Spec L2 C8
/-! ### enumerate(tuple) -/
def Iet (K : PySem.W.Frag) (a : Addr) : It :=
  ⟨fun i H => ∃ (xs : List V) (x : V), SqT K H a xs ∧ xs[i]? = some x, fun i H v H' => ∃ T x, v = .ref T ∧ H T = none ∧ H' = upd H T (.tup [.int (i : Nat), x]) ∧ ∀ xs, SqT K H a xs → xs[i]? = some x, fun i H => ∃ xs : List V, SqT K H a xs ∧ xs.length = i⟩
theorem turn_et {P : Program} {w : World} {K : PySem.W.Frag} {elts : List Expr} {kk : Nat} {tpos : Pos} (a e it : Addr) :
    Turn P w K (.Tuple elts kk tpos) (Iet K a) [e, it] e (fun i h => (∃ old, IsEnum h e it ((i : Nat) : Int) old) ∧ h.IsTupleIter it a i ∧ e ≠ it ∧ e ≠ a ∧ a ≠ it) where
  mem := by simp
  obj := fun i h st b hb => by
    obtain ⟨⟨old, he⟩, ⟨o, ho, hc, hd⟩, _⟩ := st
    rcases (by simpa using hb : b = e ∨ b = it) with z | z <;> subst z
    · exact ⟨_, he, fun v q => nomatch q⟩
    · exact ⟨o, ho, fun v q => by rw [hd] at q; cases q⟩
  keep := fun i h h' st k => let ⟨⟨old, he⟩, hi, n⟩ := st; ⟨⟨old, k e (by simp) _ he⟩, hi.at fun o q => k it (by simp) o q, n⟩
  item := by
    intro X hP hw hK hc i pins s σ H E I hf st hg
    subst hP hw hK
    obtain ⟨⟨old, he⟩, hit, n1, n2, n3⟩ := st
    obtain ⟨xs, x, hq, hx⟩ := hg
    obtain ⟨its, rv, p, hz⟩ := I.tuple hq
    obtain ⟨u, hu, ru⟩ := rv.get hx
    have le : e < s.heap.objs.size := Heap.lt_size he
    have li : it < s.heap.objs.size := by obtain ⟨_, q, _⟩ := hit; exact Heap.lt_size q
    have pT : s.heap.IsTuple a its.toArray := p
    refine wpAny_pyNext_enum_itemD (D := Draws.tuple (A := X.A.in1) (show X.A.in1.handled = none from I.ok.hd hc) it a n3 its.toArray) he ⟨hit, pT⟩ (by obtain ⟨l, _⟩ := List.getElem?_eq_some_iff.mp hu; simpa using l) n1 (by simp [n1, n2]) fun u' h' tk hu' ho hs' hT hsz hk => ?_
    have eu : u' = u := by
      have : its[i]? = some u' := by simpa using hu'
      rw [hu] at this; exact (Option.some.inj this).symm
    subst eu
    refine ⟨_, rfl, wpAny_letOwnedTupleGo_enum (s := { s with heap := h', toks := tk + 1 }) ho fun h'' he' sb => ?_⟩
    have hT2 := (sb.2 _ (Nat.ne_of_gt le)).trans hT
    have new : ObjOk X.prog X.w (upd H s.heap.objs.size (.tup [.int (i : Nat), x])) h'' s.heap.objs.size (.tup [.int (i : Nat), x]) :=
      ⟨by show 2 ≤ sizeLine; decide, [.int i tk, u'], .cons ⟨_, rfl⟩ (.cons ru .nil), ⟨_, hT2, rfl, _, rfl⟩⟩
    have I1 : Inv X pins σ (upd H s.heap.objs.size (.tup [.int (i : Nat), x])) { s with heap := h'', toks := tk + 1 } :=
      I.turnedNew (ch := [e, it]) (fun b ob hb q => (sb.2 b (fun z => hb (by simp [z]))).trans (hk b ob (fun z => hb (by simp [z])) (fun z => hb (by simp [z])) q)) hf (Nat.le_refl _) new
    refine ⟨.ref s.heap.objs.size, _, I1, rfl, ⟨_, x, rfl, I.hok.fresh (Nat.le_refl _), rfl, fun ys hy => by rw [I.tuple_inj hy hq]; exact hx⟩, ⟨⟨u', ?_⟩, hs'.1.at fun o q => (sb.2 it (Ne.symm n1)).trans q, n1, n2, n3⟩, fun b hb => ?_⟩
    · rw [show ((i + 1 : Nat) : Int) = (i : Int) + 1 by omega]; exact he'
    · have hb' : b < s.heap.objs.size := by
        rcases (by simpa using hb : b = e ∨ b = it) with z | z <;> subst z <;> assumption
      rw [upd_ne (Nat.ne_of_lt hb')]
      exact (hf b hb).1
  done := by
    intro X hP hw hK hc i pins s σ H E I hf st hg
    subst hP hw hK
    obtain ⟨⟨old, he⟩, hit, n1, n2, n3⟩ := st
    obtain ⟨xs, hq, hx⟩ := hg
    obtain ⟨its, rv, p, hz⟩ := I.tuple hq
    obtain ⟨f0, f1, f2, f3, f4, f5⟩ := hf it (by simp)
    have pT : s.heap.IsTuple a its.toArray := p
    have hl : its.toArray.size = i := by have := rv.length; simp; omega
    exact wpAny_pyNext_enum_endD (Draws.tuple (A := X.A.in1) (show X.A.in1.handled = none from I.ok.hd hc) it a n3 its.toArray) he ⟨by rw [hl]; exact hit, pT⟩ fun h' eb => ⟨rfl, I.turned (t' := s.toks) (fun b o hb q => eb b o hb q) f0 f1 f3 f4 f5⟩
  self := fun A i s Q E st h => let ⟨⟨_, he⟩, _⟩ := st; wpAny_pyIter_enum he h
def vEnumT (K : PySem.W.Frag) (ta : TA) : TI := fun σ H R => ta σ H fun vs H1 => ∃ a xs, vs = [.ref a] ∧ SqT K H1 a xs ∧ R (Iet K a) H1
theorem pi_et {X : Cx} {e : Expr} {ta : TA} {p pos tpos : Pos} {elts : List Expr} {kk : Nat} (hg : Gl X "enumerate") (hm : X.mg "enumerate" = none) (ha : PA X [e] ta) (hs : starEach [e] X.env = [(false, eval e X.env)] := by rfl) :
    PI X (.Tuple elts kk tpos) (.Call (.Name "enumerate" p) [e] [] pos) (vEnumT X.K ta) := by
  refine ⟨fun pins s σ H R I h => ?_⟩
  refine PyProof.Rows.Call_ (ld_blt I hg hm PyProof.Rows.boot_enumerate (PyProof.Rows.callWith_type1 (thn (ha.run pos pins s σ H _ I h) fun us s1 ⟨vs, H1, I1, r1, q1⟩ => ?_) hs rfl))
  obtain ⟨a, xs, rfl, hq, q⟩ := q1
  cases r1 with
  | cons r rr =>
    cases rr
    cases r
    obtain ⟨its, rv, pp, hz⟩ := I1.tuple hq
    have pT : s1.heap.IsTuple a its.toArray := pp
    have la : a < s1.heap.objs.size := by obtain ⟨_, x, _⟩ := pT; exact Heap.lt_size x
    refine dl_call_enum (begins_tuple a its.toArray) pT fun h' he hi hk => wpAny_pyIter_enum he ?_
    refine ⟨s1.heap.objs.size + 1, [s1.heap.objs.size + 1, s1.heap.objs.size], _, _, H1, rfl, I1.kept (t' := s1.toks) hk, turn_et a (s1.heap.objs.size + 1) s1.heap.objs.size, ⟨⟨.none, he⟩, ⟨_, hi, rfl, rfl⟩, Nat.succ_ne_self _, Nat.ne_of_gt (Nat.lt_succ_of_lt la), Nat.ne_of_lt la⟩, fun b hb => ?_, q⟩
    have hle : s1.heap.objs.size ≤ b := by
      rcases (by simpa using hb : b = s1.heap.objs.size + 1 ∨ b = s1.heap.objs.size) with z | z
      · rw [z]; exact Nat.le_succ _
      · rw [z]; exact Nat.le_refl _
    exact I1.fpOk hle (I1.hok.fresh hle)
/-! ### their readings as data -/
def numD (xs : List D) : List D := (List.range xs.length).zipWith (fun i x => .tup [.int (i : Nat), x]) xs
theorem numD_len {xs : List D} : (numD xs).length = xs.length := by simp [numD]
theorem numD_get {xs : List D} {i : Nat} {d : D} (h : (numD xs)[i]? = some d) : ∃ x, xs[i]? = some x ∧ d = .tup [.int (i : Nat), x] := by
  unfold numD at h
  rw [List.getElem?_zipWith] at h
  by_cases c : i < xs.length
  · rw [List.getElem?_range c, List.getElem?_eq_getElem c] at h
    cases h
    exact ⟨_, List.getElem?_eq_getElem c, rfl⟩
  · rw [List.getElem?_eq_none (l := List.range _) (by simpa using c)] at h
    simp at h
section
variable {K : PySem.W.Frag} {F : Hp} {a : Addr} {xs : List D} {vs : List V}
theorem ItD.numT (q : SqT K F a vs) (r : Reps K F xs vs) : ItD K F (Iet K a) (numD xs) (fun _ => True) where
  go := fun {i F' h0 H} e S s l => by
    rw [numD_len] at l
    obtain ⟨v, hv, _⟩ := r.get (List.getElem?_eq_getElem l)
    exact ⟨vs, v, sqt_of S.fz (e.sqt q), hv⟩
  stop := fun {i F' h0 H} e S s l =>
    by exact ⟨vs, sqt_of S.fz (e.sqt q), by rw [← r.length, ← numD_len]; exact l⟩
  yld := fun {i F' h0 H x H' d} e S s y hd => by
    obtain ⟨T, v, rfl, hT, rfl, y⟩ := y
    obtain ⟨dx, hx, rfl⟩ := numD_get hd
    obtain ⟨v', hv, rv⟩ := r.get hx
    have ey := y vs (sqt_of S.fz (e.sqt q))
    rw [hv] at ey
    obtain rfl := Option.some.inj ey
    have x1 := ext_upd (o := HO.tup [V.int (i : Nat), v']) (S.free hT).1
    exact ⟨_, x1, S.newF hT _, .tup (.of upd_same) (.cons (.int _) (.cons ((rv.ext e).ext x1) .nil))⟩
def stepD (lo c : Int) (n : Nat) : List D := (List.range n).map fun i => D.int (lo + (i : Nat) * c)
theorem stepD_len {lo c : Int} {n : Nat} : (stepD lo c n).length = n := by simp [stepD]
theorem stepD_get {lo c : Int} {n i : Nat} {d : D} (h : (stepD lo c n)[i]? = some d) : d = .int (lo + (i : Nat) * c) ∧ i < n := by
  unfold stepD at h
  rw [List.getElem?_map] at h
  by_cases l : i < n
  · rw [List.getElem?_range l] at h
    cases h; exact ⟨rfl, l⟩
  · rw [List.getElem?_eq_none (by simpa using l)] at h; cases h
theorem ItD.step {lo c : Int} {n : Nat} : ItD K F (Itc lo c n) (stepD lo c n) (fun _ => True) where
  go := fun {i F' h0 H} e S s l => by rw [stepD_len] at l; exact l
  stop := fun {i F' h0 H} e S s l => by rw [stepD_len] at l; exact Nat.le_of_eq l
  yld := fun {i F' h0 H x H' d} e S s y hd => by
    obtain ⟨rfl, rfl⟩ := y
    obtain ⟨rfl, _⟩ := stepD_get hd
    exact ⟨F', .refl _, S, .int _⟩
end
section
variable {X : Cx} {E : XK} {tg e : Expr} {wl : WA} {p pos tpos : Pos} {elts : List Expr} {kk : Nat}
/-- enumerate of a tuple, or of a list as it stands -/
def iNum (wl : WA) : WI := fun ρ h R X => wl ρ h (fun ds h1 => match ds with
  | [.tup xs] => R (numD xs) (fun _ => True) h1
  | _ => False) X
theorem ai_num (hm : X.mg "enumerate" = none) (ha : AA X E [e] wl) (hg : Gl X "enumerate" := by rfl) (hs : starEach [e] X.env = [(false, eval e X.env)] := by rfl) : AI X E (.Tuple elts kk tpos) (.Call (.Name "enumerate" p) [e] [] pos) (iNum wl) := by
  refine ⟨PI.imp (pi_et hg hm ha.run hs) fun σ H R ⟨F, ρ, g, S, Rr, q⟩ => ?_, fun ρ h Q Q' X X' hq hx q => ha.mo _ _ _ _ _ _ (fun ds h1 z => ?_) hx q⟩
  · refine ⟨F, ρ, g, S, Rr, ha.mo _ _ _ _ _ _ (fun ds h1 z => ?_) (fun _ _ z => z) q⟩
    intro F1 H1 vs e1 S1 rs
    split at z
    · cases rs with
      | cons r rs =>
        cases rs
        cases r with
        | @tup a xs us hf rs => exact ⟨a, us, rfl, sqt_of S1.fz hf, z F1 H1 _ e1 S1 (ItD.numT hf rs)⟩
    · exact z.elim
  · split at z
    · exact hq _ _ _ z
    · exact z.elim
def iRng3 (wl : WA) : WI := fun ρ h R X => wl ρ h (fun ds h1 => match ds with
  | [.int i, .int j, .int c] => ∃ n, RgC i j c n ∧ R (stepD i c n) (fun _ => True) h1
  | _ => False) X
theorem ai_rng3 {a b c : Expr} (hm : X.mg "range" = none) (ha : AA X E [a, b, c] wl) (hg : Gl X "range" := by rfl) (hs : starEach [a, b, c] X.env = (false, eval a X.env) :: starEach [b, c] X.env := by rfl) (hpl : (backTo pos (starEach [b, c] X.env)).any (·.1) = false := by rfl) :
    AI X E tg (.Call (.Name "range" p) [a, b, c] [] pos) (iRng3 wl) := by
  refine ⟨PI.imp (pi_range3 hg hm ha.run hs hpl) fun σ H R ⟨F, ρ, g, S, Rr, q⟩ => ?_, fun ρ h Q Q' X X' hq hx q => ha.mo _ _ _ _ _ _ (fun ds h1 z => ?_) hx q⟩
  · refine ⟨F, ρ, g, S, Rr, ha.mo _ _ _ _ _ _ (fun ds h1 z => ?_) (fun _ _ z => z) q⟩
    intro F1 H1 vs e1 S1 rs
    split at z
    · obtain ⟨n, c, z⟩ := z
      cases rs with
      | cons r rs =>
        cases r
        cases rs with
        | cons r rs =>
          cases r
          cases rs with
          | cons r rs => cases rs; cases r; exact ⟨_, _, _, n, rfl, c, z F1 H1 _ e1 S1 ItD.step⟩
    · exact z.elim
  · split at z
    · obtain ⟨n, c, z⟩ := z
      exact ⟨n, c, hq _ _ _ z⟩
    · exact z.elim
end
end DL
namespace DL
open PySem PySem.Spec L2 C8
/-! ### x in (a, b): flat data -/
def flatD : D → Bool
  | .non => true
  | .bl _ => true
  | .int _ => true
  | .str _ => true
  | _ => false
def eqFD : D → D → Bool
  | .non, .non => true
  | .bl a, .bl b => a == b
  | .bl a, .int b => (if a then 1 else 0) == b
  | .int a, .bl b => a == (if b then 1 else 0)
  | .int a, .int b => a == b
  | .str a, .str b => a == b
  | _, _ => false
def inD (x : D) (ys : List D) : Bool := ys.any fun y => eqFD y x
def dIn (neg : Bool) (x y : D) (h : AH) (Q : KD) : Prop := ∃ ys, seqOf h y = some ys ∧ flatD x = true ∧ ys.all flatD = true ∧ Q (.bl (if neg then !inD x ys else inD x ys)) h
theorem flatV_of {K : PySem.W.Frag} {F : Hp} {d : D} {v : V} (r : Rep K F d v) (f : flatD d = true) : flatV v = true := by
  cases r <;> first | rfl | cases f
theorem eqV_of {K : PySem.W.Frag} {F : Hp} {d e : D} {v w : V} (r : Rep K F d v) (q : Rep K F e w) (f : flatD d = true) (g : flatD e = true) : eqV v w = eqFD d e := by
  cases r <;> first | (exact absurd f Bool.false_ne_true) | (cases q <;> first | rfl | (exact absurd g Bool.false_ne_true))
theorem inV_of {K : PySem.W.Frag} {F : Hp} {d : D} {v : V} (r : Rep K F d v) (f : flatD d = true) : ∀ {xs : List D} {vs : List V}, Reps K F xs vs → xs.all flatD = true → vs.all flatV = true ∧ inV v vs = inD d xs
  | _, _, .nil, _ => ⟨rfl, rfl⟩
  | _, _, .cons q t, g => by
    rw [List.all_cons, Bool.and_eq_true] at g
    obtain ⟨h1, h2⟩ := inV_of r f t g.2
    refine ⟨by rw [List.all_cons, flatV_of q g.1, h1]; rfl, ?_⟩
    show (List.any _ _) = (List.any _ _)
    rw [List.any_cons, List.any_cons, eqV_of q r g.1 f]
    exact congrArg _ h2
theorem dIn_ok {K : PySem.W.Frag} {neg : Bool} : OpD K (rIn K neg) (dIn neg) where
  to := by
    intro F h H x y vx vy Q S rx ry q
    obtain ⟨ys, e, f, g, q⟩ := q
    obtain ⟨a, vs, rfl, hq, rs⟩ := S.seqOf ry e
    obtain ⟨h1, h2⟩ := inV_of rx f rs g
    exact ⟨a, vs, rfl, hq, flatV_of rx f, h1, by rw [h2]; exact q.at S (.bl _)⟩
  mo := fun hq ⟨ys, e, f, g, q⟩ => ⟨ys, e, f, g, hq _ _ q⟩
section
variable {X : Cx} {E : XK} {k : Nat} {a b e : Expr} {es : List Expr} {wa wb wx : WE} {wl wk : WA} {pos kpos : Pos} {kws : List Keyword} {nm : Option Str}
theorem ae_in (ha : AE X E a wa) (hb : AE X E b wb) (hm : behindInMarks .In b = false := by rfl) : AE X E (.Compare a [.In] [b] pos) (wOp (dIn false) wa wb) := ae_cmp dIn_ok op_in_seq ha hb hm
theorem at_notin (ha : AE X E a wa) (hb : AE X E b wb) (hm : behindInMarks .NotIn b = false := by rfl) : AT X E (.Compare a [.NotIn] [b] pos) (wTest (wOp (dIn true) wa wb)) := at_cmp dIn_ok op_notIn_seq ha hb hm
/-! ### keywords -/
structure AK (X : Cx) (E : XK) (kws : List Keyword) (w : WA) : Prop where
  run : PK X kws (tA X.K E w)
  mo : MoA w
theorem PK.imp {t t' : TA} (p : PK X kws t) (h : ∀ σ H Q, t' σ H Q → t σ H Q) : PK X kws t' := ⟨fun pos pins s σ H Q I q => p.run pos pins s σ H Q I (h _ _ _ q)⟩
theorem ak_nil : AK X E [] wNil := ⟨PK.imp pk_nil fun σ H Q ⟨F, ρ, g, S, R, q⟩ => q F H [] (.refl F) S .nil, fun ρ h Q Q' X X' hq hx q => hq _ _ q⟩
theorem ak_cons (ha : AE X E e wx) (hr : AK X E kws wk) : AK X E (⟨nm, e, kpos⟩ :: kws) (wCons wx wk) := by
  refine ⟨PK.imp (pk_cons ha.run hr.run) fun σ H Q ⟨F, ρ, g, S, R, q⟩ => ?_, fun ρ h Q Q' X X' hq hx q => ha.mo _ _ _ _ _ _ (fun x h1 z => hr.mo _ _ _ _ _ _ (fun xs h2 z => hq _ _ z) hx z) hx q⟩
  refine ⟨F, ρ, g, S, R, ha.mo _ _ _ _ _ _ (fun x h1 z => ?_) (fun _ _ z => z) q⟩
  intro F1 H1 v e1 S1 r
  refine ⟨F1, ρ, h1, S1, R.ext e1, hr.mo _ _ _ _ _ _ (fun xs h2 z => ?_) (fun _ _ z => LX.ext e1 z) z⟩
  intro F2 H2 vs e2 S2 rs
  exact z F2 H2 _ (e1.trans e2) S2 (.cons (r.ext e2) rs)
/-- f(k = b, ..) -/
theorem ae_callK0 {m j : Nat} {ks : List Str} {gg : List D → List D → List D} {S : FSpec} {x : Str} {p : Pos} (c : Cg gz X E k) (C : Cal gy X.prog X.w X.K X.mg X.base x j 0 ks gg S) (hj : j ≤ k) (hz : gy = true → gz = true) (hkw : AK X E kws wk) (hl : ks.length = m := by rfl)
    (hg : Gl X x := by rfl) (hall : (backToKw pos (keywordEach kws X.env)).all (·.1.isSome) = true := by rfl) (hks : (backToKw pos (keywordEach kws X.env)).filterMap (·.1) = ks := by rfl) (hdb : (x == ("__debug__" : Str)) = false := by decide)
    (hpl : ((backTo pos (starEach [] X.env)).any (·.1) || (backToKw pos (keywordEach kws X.env)).any (·.1.isNone)) = false := by rfl) : AE X E (.Call (.Name x p) [] kws pos) (wCall S 0 m gg wNil wk) := by
  obtain ⟨f, fd, ps, hm, hk, G, B⟩ := C.ex
  refine ⟨⟨fun pins s σ H Q I hq => ?_⟩, fun ρ h0 Q Q' X X' hq hx q => hkw.mo _ _ _ _ _ _ (fun zs h1 q1 => ⟨q1.1, q1.2.1, G.mo _ _ _ _ _ _ hq hx q1.2.2⟩) hx q⟩
  obtain ⟨F, ρ, g, S0, R, q⟩ := hq
  refine wpAny_Call_Name_kw (ld_glob I hg hm ?_ hdb)
  refine PySem.W.callWith_KW0 (h₀ := X.base) I.ok.mod.kin hk hall
    (thn (hkw.run.run pos pins s σ H (fun ys H1 => ∃ F1 h1 zs, Sim X.K F1 h1 H1 ∧ Reps X.K F1 zs ys ∧ zs.length = m ∧ S (gg [] zs) h1 (LQ X.K F1 Q) (LX X.K F1 E)) I
      ⟨F, ρ, g, S0, R, hkw.mo _ _ _ _ _ _ (fun zs h1 q1 F1 H1 vs e1 S1 rs => ⟨F1, h1, zs, S1, rs, q1.2.1, G.mo _ _ _ _ _ _ (fun _ _ z => LQ.ext e1 z) (fun _ _ z => LX.ext e1 z) q1.2.2⟩) (fun _ _ z => z) q⟩) fun ws s1 hh => ?_) hpl
  obtain ⟨ys, H1, I1, r1, F1, h1, zs, S1, rs, l, q1⟩ := hh
  refine ⟨I1.kIn, ?_⟩
  rw [hks]
  obtain ⟨xs, ts, rx, rt, bt⟩ := B.to s1 F1 [] zs [] ys [] ws I1.kIn rfl (l.trans hl.symm) .nil .nil rs r1
  exact wpAny_call (codeAny_mono (run_g (c.mono hj) G hz I1 bt rt ⟨F1, _, h1, S1, rx, q1⟩) fun r s' hr => by
    match r, hr with
    | .error _, hr => exact hr
    | .ok (.ret _), hr => exact hr)
/-- f(a, .., k = b, ..) -/
theorem ae_callK {n m j : Nat} {ks : List Str} {gg : List D → List D → List D} {S : FSpec} {x : Str} {p : Pos} (c : Cg gz X E k) (C : Cal gy X.prog X.w X.K X.mg X.base x j n ks gg S) (hj : j ≤ k) (hz : gy = true → gz = true) (ha : AA X E (e :: es) wl) (hkw : AK X E kws wk) (hl : ks.length = m := by rfl)
    (hg : Gl X x := by rfl) (hall : (backToKw pos (keywordEach kws X.env)).all (·.1.isSome) = true := by rfl) (hks : (backToKw pos (keywordEach kws X.env)).filterMap (·.1) = ks := by rfl) (hdb : (x == ("__debug__" : Str)) = false := by decide)
    (he : starEach (e :: es) X.env = (false, eval e X.env) :: starEach es X.env := by rfl)
    (hpl : ((backTo pos (starEach (e :: es) X.env)).any (·.1) || (backToKw pos (keywordEach kws X.env)).any (·.1.isNone)) = false := by rfl) : AE X E (.Call (.Name x p) (e :: es) kws pos) (wCall S n m gg wl wk) := by
  obtain ⟨f, fd, ps, hm, hk, G, B⟩ := C.ex
  refine ⟨⟨fun pins s σ H Q I hq => ?_⟩, fun ρ h0 Q Q' X X' hq hx q => ha.mo _ _ _ _ _ _ (fun ds h1 q1 => hkw.mo _ _ _ _ _ _ (fun zs h1 q1 => ⟨q1.1, q1.2.1, G.mo _ _ _ _ _ _ hq hx q1.2.2⟩) hx q1) hx q⟩
  obtain ⟨F, ρ, g, S0, R, q⟩ := hq
  refine wpAny_Call_Name_kw (ld_glob I hg hm ?_ hdb)
  refine PySem.W.callWith_KW (h₀ := X.base) I.ok.mod.kin hk hall (thn (ha.run.run pos pins s σ H (fun vs H1 => ∃ F1 h1 ds, Sim X.K F1 h1 H1 ∧ EnvR X.K F1 ρ σ ∧ Reps X.K F1 ds vs ∧ wk ρ h1 (fun zs h2 => ds.length = n ∧ zs.length = m ∧ S (gg ds zs) h2 (LQ X.K F1 Q) (LX X.K F1 E)) (LX X.K F1 E)) I
      ⟨F, ρ, g, S0, R, ha.mo _ _ _ _ _ _ (fun ds h1 q1 F1 H1 vs e1 S1 rs => ⟨F1, h1, ds, S1, R.ext e1, rs, hkw.mo _ _ _ _ _ _ (fun zs h2 q2 => ⟨q2.1, q2.2.1, G.mo _ _ _ _ _ _ (fun _ _ z => LQ.ext e1 z) (fun _ _ z => LX.ext e1 z) q2.2.2⟩) (fun _ _ z => LX.ext e1 z) q1⟩) (fun _ _ z => z) q⟩) fun us s1 hh => ?_) hpl he
  obtain ⟨vs, H1, I1, r1, F1, h1, ds, S1, R1, rs, q1⟩ := hh
  refine thn (hkw.run.run pos pins s1 σ H1 (fun ys H2 => ∃ F2 h2 zs, Ext F1 F2 ∧ Sim X.K F2 h2 H2 ∧ Reps X.K F2 zs ys ∧ ds.length = n ∧ zs.length = m ∧ S (gg ds zs) h2 (LQ X.K F2 Q) (LX X.K F2 E)) I1
      ⟨F1, ρ, h1, S1, R1, hkw.mo _ _ _ _ _ _ (fun zs h2 q2 F2 H2 ys e2 S2 rz => ⟨F2, h2, zs, e2, S2, rz, q2.1, q2.2.1, G.mo _ _ _ _ _ _ (fun _ _ z => LQ.ext e2 z) (fun _ _ z => LX.ext e2 z) q2.2.2⟩) (fun _ _ z => z) q1⟩) fun ws s2 hh => ?_
  obtain ⟨ys, H2, I2, r2, F2, h2, zs, e2, S2, rz, l1, l2, q2⟩ := hh
  refine ⟨I2.kIn, ?_⟩
  rw [hks]
  obtain ⟨xs, ts, rx, rt, bt⟩ := B.to s2 F2 ds zs vs ys us ws I2.kIn l1 (l2.trans hl.symm) (rs.ext e2) r1 rz r2
  exact wpAny_call (codeAny_mono (run_g (c.mono hj) G hz I2 bt rt ⟨F2, _, h2, S2, rx, q2⟩) fun r s' hr => by
    match r, hr with
    | .error _, hr => exact hr
    | .ok (.ret _), hr => exact hr)
end
/-- the parameters' values, picked from the positional ones and the keywords' -/
def pickD (ix : List Nat) (ds zs : List D) : List D := ix.map fun i => ((ds ++ zs)[i]?).getD .non
theorem Bnd.pick {K : PySem.W.Frag} {fd : FuncData} {ps : List Str} {n : Nat} {ks : List Str} (ix : List Nat) (hi : ∀ i ∈ ix, i < n + ks.length)
    (h : ∀ us ws : List Value, us.length = n → ws.length = ks.length → bindArgs fd ⟨us, ks.zip ws⟩ = pure (ps.zip (ix.map fun i => ((us ++ ws)[i]?).getD .none))) : Bnd K fd ps n ks (pickD ix) := by
  refine ⟨fun s F ds zs vs ys us ws X l1 l2 r1 r2 r3 r4 => ⟨ix.map fun i => ((vs ++ ys)[i]?).getD .non, ix.map fun i => ((us ++ ws)[i]?).getD .none, ?_, ?_, .of_eq (h us ws (by rw [← r2.length, ← r1.length]; exact l1) (by rw [← r4.length, ← r3.length]; exact l2))⟩⟩
  · have r := r1.append r3
    have l : (ds ++ zs).length = n + ks.length := by simp [l1, l2]
    clear h
    unfold pickD
    induction ix with
    | nil => exact .nil
    | cons i ix ih =>
      have li : i < (ds ++ zs).length := by rw [l]; exact hi i (List.mem_cons_self ..)
      obtain ⟨v, hv, rv⟩ := r.get (List.getElem?_eq_getElem li)
      refine .cons ?_ (ih fun j hj => hi j (List.mem_cons_of_mem _ hj))
      show _
      simp only [hv, List.getElem?_eq_getElem li]
      exact rv
  · have r := r2.append r4
    have l : (vs ++ ys).length = n + ks.length := by simp [← r1.length, ← r3.length, l1, l2]
    clear h
    induction ix with
    | nil => exact .nil
    | cons i ix ih =>
      have li : i < (vs ++ ys).length := by rw [l]; exact hi i (List.mem_cons_self ..)
      obtain ⟨v, hv, rv⟩ := r.get (List.getElem?_eq_getElem li)
      refine .cons ?_ (ih fun j hj => hi j (List.mem_cons_of_mem _ hj))
      show _
      simp only [hv, List.getElem?_eq_getElem li]
      exact rv
end DL
namespace DL
open PySem PySem.Spec L2 C8 PyProof.Rows
/-! ### the law is called -/
section
variable {P : Program} {w : World} {K : PySem.W.Frag} {mg bm : Str → Option Value} {k : Nat} {fa q : Addr} {fd : FuncData} {x : Str} {S : FSpec} {t : Shared} {us : List Value} {js : List Int}
/-- what is tracked at the start: the script at most -/
structure Beg (K : PySem.W.Frag) (P : Program) (w : World) (H : Hp) (hp : Heap) (q : Addr) (js : List Int) : Prop where
  sq : SqL K H q (js.map V.int)
  ok : HOk P w H hp
  at_ : ∀ b, H b ≠ none → b = q
  out : H q ≠ none → K.lookup q = none
  fz : ∀ b, H b = none ∨ ∃ ob ys, H b = some (.frz ob (.lst ys))
theorem beg_of (KX : K.In t.heap) (hq : t.heap.get? q = some { cls := .type "list", data := .seq us.toArray }) (ia : IntsAre us js) (lj : js.length ≤ sizeLine) : ∃ H, Beg K P w H t.heap q js := by
  have rv := vals_ints ia
  have el := ia.length
  cases kq : K.lookup q with
  | some ob =>
    have e := (KX q ob kq).symm.trans hq
    obtain rfl := Option.some.inj e
    refine ⟨fun _ => none, .inr ⟨_, _, _, kq, rfl, rfl, rfl, ?_, by simpa using rv⟩, fun b u z => ?_, fun b z => absurd rfl z, fun z => absurd rfl z, fun b => .inl rfl⟩
    · rw [List.size_toArray, el]; exact lj
    · exact absurd (show (none : Option HO) = some u from z) (by simp)
  | none =>
    have tr : ∀ b : Addr, (if b = q then some (HO.frz { cls := .type "list", data := .seq us.toArray } (.lst (js.map V.int))) else none : Option HO) ≠ none → b = q := fun b z => by
      by_cases c : b = q
      · exact c
      · exact absurd (if_neg c) z
    refine ⟨fun b => if b = q then some (.frz { cls := .type "list", data := .seq us.toArray } (.lst (js.map V.int))) else none, .inl (.inr ⟨_, if_pos rfl⟩), fun b u z => ?_, tr, fun _ => kq, fun b => ?_⟩
    · have c : b = q := tr b (by intro n; exact absurd (n.symm.trans z) (by simp))
      subst c
      obtain rfl := Option.some.inj ((if_pos rfl).symm.trans z)
      exact ⟨hq, by rw [List.length_map]; exact lj, us, _, rv, hq⟩
    · by_cases c : b = q
      · exact .inr ⟨_, _, if_pos c⟩
      · exact .inl (if_neg c)
end
end DL
namespace DL
open PySem PySem.Spec L2 C8
section
variable {X : Cx} {E : XK} {k : Nat} {a b c e : Expr} {wa wb wc : WE} {pos : Pos} {op op' : CmpOp} {r r' : R2} {f g : D → D → AH → KD → Prop}
theorem to_chain (ok : OpD X.K r f) (ok' : OpD X.K r' g) (ha : AE X E a wa) (hb : AE X E b wb) (hc : AE X E c wc) {σ : L2.St} {H : Hp} {Q : VK} (h : tE X.K E (wChain f g wa wb wc) σ H Q) : tChain r r' (tE X.K E wa) (tE X.K E wb) (tE X.K E wc) σ H Q := by
  obtain ⟨F, ρ, g0, S, R, q⟩ := h
  refine ⟨F, ρ, g0, S, R, ha.mo _ _ _ _ _ _ (fun x h1 hx => ?_) (fun _ _ z => z) q⟩
  intro F1 H1 vx e1 S1 rx
  refine ⟨F1, ρ, h1, S1, R.ext e1, hb.mo _ _ _ _ _ _ (fun y h2 hf => ?_) (fun _ _ z => LX.ext e1 z) hx⟩
  intro F2 H2 vy e2 S2 ry
  refine ok.to S2 (rx.ext e2) ry (ok.mo (fun z h3 hz => ?_) hf)
  intro F3 H3 v3 e3 S3 r3
  split at hz
  · rename_i kk
    cases r3
    refine ⟨kk, rfl, ?_⟩
    split at hz
    · rename_i ck
      rw [if_pos ck]
      refine ⟨F3, ρ, h3, S3, R.ext (e1.trans (e2.trans e3)), hc.mo _ _ _ _ _ _ (fun u h4 hg => ?_) (fun _ _ z => LX.ext (e1.trans (e2.trans e3)) z) hz⟩
      intro F4 H4 vu e4 S4 ru
      exact ok'.to S4 (ry.ext (e3.trans e4)) ru (ok'.mo (fun _ _ z => LQ.ext (e1.trans (e2.trans (e3.trans e4))) z) hg)
    · rename_i ck
      rw [if_neg ck]
      exact hz F3 H3 _ (e1.trans (e2.trans e3)) S3 (.bl _)
  · exact hz.elim
theorem at_chain2 (ok : OpD X.K r f) (ok' : OpD X.K r' g) (ho : OpR X (compareOp op) r) (ho' : OpR X (compareOp op') r') (ha : AE X E a wa) (hb : AE X E b wb) (hc : AE X E c wc)
    (hm : lastMarks [op, op'] [b, c] = false := by with_unfolding_all rfl) : AT X E (.Compare a [op, op'] [b, c] pos) (wTest (wChain f g wa wb wc)) := by
  have M : MoE (wChain f g wa wb wc) := mo_chain ok.mo ok'.mo ha.mo hb.mo hc.mo
  refine ⟨PT.imp (pt_chain ho ho' ha.run hb.run hc.run hm) fun σ H Q ⟨F, ρ, g0, S, R, q⟩ => ?_, fun ρ h Q Q' X X' hq hx q => M _ _ _ _ _ _ (fun x h1 q1 => ?_) hx q⟩
  · refine to_chain ok ok' ha hb hc ⟨F, ρ, g0, S, R, M _ _ _ _ _ _ (fun x h1 hx => ?_) (fun _ _ z => z) q⟩
    intro F1 H1 vx e1 S1 rx
    split at hx
    · cases rx; exact ⟨_, rfl, hx F1 H1 e1 S1⟩
    · exact hx.elim
  · split at q1
    · exact hq _ _ q1
    · exact q1.elim
theorem ae_chain2 (ok : OpD X.K r f) (ok' : OpD X.K r' g) (ho : OpR X (compareOp op) r) (ho' : OpR X (compareOp op') r') (ha : AE X E a wa) (hb : AE X E b wb) (hc : AE X E c wc)
    (hm : lastMarks [op, op'] [b, c] = false := by with_unfolding_all rfl) : AE X E (.Compare a [op, op'] [b, c] pos) (wChain f g wa wb wc) :=
  ⟨PE.imp (pe_chain ho ho' ha.run hb.run hc.run hm) fun σ H Q h => to_chain ok ok' ha hb hc h, mo_chain ok.mo ok'.mo ha.mo hb.mo hc.mo⟩
end
/-! ### the built-in names -/
theorem bb_len : bootBuiltins "len" = some (.builtin "len") := by decide +kernel
theorem bb_abs : bootBuiltins "abs" = some (.builtin "abs") := by decide +kernel
theorem bb_max : bootBuiltins "max" = some (.builtin "max") := by decide +kernel
theorem bb_min : bootBuiltins "min" = some (.builtin "min") := by decide +kernel
theorem bb_sum : bootBuiltins "sum" = some (.builtin "sum") := by decide +kernel
theorem bb_repr : bootBuiltins "repr" = some (.builtin "repr") := by decide +kernel
theorem bb_isinstance : bootBuiltins "isinstance" = some (.builtin "isinstance") := by decide +kernel
theorem bb_int : bootBuiltins "int" = some (.type "int") := by decide +kernel
theorem bb_bool : bootBuiltins "bool" = some (.type "bool") := by decide +kernel
theorem bb_str : bootBuiltins "str" = some (.type "str") := by decide +kernel
theorem bb_list : bootBuiltins "list" = some (.type "list") := by decide +kernel
theorem bb_tuple : bootBuiltins "tuple" = some (.type "tuple") := by decide +kernel
/-- a name of the module that holds an int -/
theorem cst_int {K : PySem.W.Frag} {mg : Str → Option Value} {x : Str} {i : Int} {t : Tok} (h : mg x = some (.int i t)) : Cst K mg x (.int i) := ⟨⟨.int i, _, h, ⟨t, rfl⟩, fun _ => .int i⟩⟩
theorem cst_str {K : PySem.W.Frag} {mg : Str → Option Value} {x i : Str} {t : Tok} (h : mg x = some (.str i t)) : Cst K mg x (.str i) := ⟨⟨.str i, _, h, ⟨t, rfl⟩, fun _ => .str i⟩⟩
end DL
namespace DL
open PySem PySem.Spec L2 C8
/-! ### how the readings unfold -/
section
variable {ρ : EnvD} {h : AH} {Q : KD} {X : KX} {D0 : EndsD} {a b c : WE} {s1 s2 : WS} {t u : WT} {i j : Int} {m : Bool} {xs : List D} {d x y z : D}
theorem u_seq : wSeq s1 s2 D0 ρ h = s1 { D0 with nx := s2 D0 } ρ h := rfl
theorem u_asg {g : WG} : wAsg a g D0 ρ h = a ρ h (fun x h1 => g x ρ h1 D0.nx D0.ex) D0.ex := rfl
theorem u_gN {n : Nat} {Q : EnvD → AH → Prop} : gN n d ρ h Q X = Q (ρ.set n (some d)) h := rfl
theorem u_ret : wRet a D0 ρ h = a ρ h D0.rt D0.ex := rfl
theorem u_retN : wRetN D0 ρ h = D0.rt .non h := rfl
theorem u_skip : wSkip D0 ρ h = D0.nx ρ h := rfl
theorem u_expr : wExpr a D0 ρ h = a ρ h (fun _ h1 => D0.nx ρ h1) D0.ex := rfl
theorem u_ifs : wIfS t s1 s2 D0 ρ h = t ρ h (fun c h1 => if c = true then s1 D0 ρ h1 else s2 D0 ρ h1) D0.ex := rfl
theorem u_c : wC d ρ h Q X = Q d h := rfl
theorem u_var {n : Nat} (e : ρ[n]? = some (some d)) : wVar n ρ h Q X = Q d h := by simp [wVar, e]
theorem u_op {f : D → D → AH → KD → Prop} : wOp f a b ρ h Q X = a ρ h (fun x h1 => b ρ h1 (fun y h2 => f x y h2 Q) X) X := rfl
theorem u_neg : wNeg a ρ h Q X = a ρ h (fun x h1 => match x with
  | .int i => Q (.int (-i)) h1
  | _ => False) X := rfl
theorem u_test {Q : Bool → AH → Prop} : wTest a ρ h Q X = a ρ h (fun x h1 => match x with
  | .bl b => Q b h1
  | _ => False) X := rfl
theorem u_and {Q : Bool → AH → Prop} : wAnd t u ρ h Q X = t ρ h (fun c h1 => if c = true then u ρ h1 Q X else Q false h1) X := rfl
theorem u_or {Q : Bool → AH → Prop} : wOr t u ρ h Q X = t ρ h (fun c h1 => if c = true then Q true h1 else u ρ h1 Q X) X := rfl
theorem u_not {Q : Bool → AH → Prop} : wNot t ρ h Q X = t ρ h (fun c h1 => Q (!c) h1) X := rfl
theorem u_if : wIf t a b ρ h Q X = t ρ h (fun c h1 => if c = true then a ρ h1 Q X else b ρ h1 Q X) X := rfl
theorem u_nil {Q : List D → AH → Prop} : wNil ρ h Q X = Q [] h := rfl
theorem u_cons {r : WA} {Q : List D → AH → Prop} : wCons a r ρ h Q X = a ρ h (fun x h1 => r ρ h1 (fun xs h2 => Q (x :: xs) h2) X) X := rfl
theorem u_tup {l : WA} : wTup l ρ h Q X = l ρ h (fun xs h1 => xs.length ≤ sizeLine ∧ Q (.tup xs) h1) X := rfl
theorem u_lst {l : WA} : wLst m l ρ h Q X = l ρ h (fun xs h1 => xs.length ≤ sizeLine ∧ newL m xs h1 Q) X := rfl
theorem u_callP {S : FSpec} {n : Nat} {g : List D → List D → List D} {l : WA} : wCallP S n g l ρ h Q X = l ρ h (fun ds h1 => ds.length = n ∧ S (g ds []) h1 Q X) X := rfl
theorem u_call {S : FSpec} {n k : Nat} {g : List D → List D → List D} {l r : WA} : wCall S n k g l r ρ h Q X = l ρ h (fun ds h1 => r ρ h1 (fun zs h2 => ds.length = n ∧ zs.length = k ∧ S (g ds zs) h2 Q X) X) X := rfl
theorem u_b {r : List D → AH → KD → Prop} {l : WA} : wB r l ρ h Q X = l ρ h (fun xs h1 => r xs h1 Q) X := rfl
theorem u_chain {f g : D → D → AH → KD → Prop} : wChain f g a b c ρ h Q X = a ρ h (fun x h1 => b ρ h1 (fun y h2 => f x y h2 fun z h3 => match z with
  | .bl k => if k = true then c ρ h3 (fun u h4 => g y u h4 Q) X else Q (.bl false) h3
  | _ => False) X) X := rfl
theorem u_andV : wAndV a b ρ h Q X = a ρ h (fun x h1 => match x with
  | .bl k => if k = true then b ρ h1 Q X else Q (.bl false) h1
  | _ => False) X := rfl
theorem u_addI : dAdd m (.int i) (.int j) h Q = Q (.int (i + j)) h := rfl
theorem u_subI : dSub (.int i) (.int j) h Q = Q (.int (i - j)) h := rfl
theorem u_mulI : dMul m (.int i) (.int j) h Q = (MulOk i j ∧ Q (.int (i * j)) h) := rfl
theorem u_divI : dDiv (.int i) (.int j) h Q = (DivOk j ∧ Q (.int (i / j)) h) := rfl
theorem u_modI : dMod (.int i) (.int j) h Q = (0 < j ∧ Q (.int (i % j)) h) := rfl
theorem u_powI : dPow (.int i) (.int j) h Q = (PowOk i j ∧ Q (.int (i ^ j.toNat)) h) := rfl
theorem u_cmpI {f : Int → Int → Bool} : dCmpI f (.int i) (.int j) h Q = Q (.bl (f i j)) h := rfl
theorem u_eqI {f : Bool → Bool} : dEq f (.int i) (.int j) h Q = Q (.bl (f (decide (i = j)))) h := rfl
theorem u_eqS {f : Bool → Bool} {i j : Str} : dEq f (.str i) (.str j) h Q = Q (.bl (f (decide (i = j)))) h := rfl
theorem u_eqB {f : Bool → Bool} {i j : Bool} : dEq f (.bl i) (.bl j) h Q = Q (.bl (f (decide (i = j)))) h := rfl
theorem u_ixL : dIx (.lst xs) (.int i) h Q = ∃ d, atI xs i = some d ∧ Q d h := by simp [dIx, seqOf, lstOf]
theorem u_ixT : dIx (.tup xs) (.int i) h Q = ∃ d, atI xs i = some d ∧ Q d h := by simp [dIx, seqOf]
theorem u_ixR {p : Addr} (e : h p = some (.lst xs)) : dIx (.ref p) (.int i) h Q = ∃ d, atI xs i = some d ∧ Q d h := by simp [dIx, seqOf, lstOf, e]
theorem u_ixLd (e : atI xs i = some d) : dIx (.lst xs) (.int i) h Q = Q d h := by simp [u_ixL, e]
theorem u_ixTd (e : atI xs i = some d) : dIx (.tup xs) (.int i) h Q = Q d h := by simp [u_ixT, e]
theorem u_ixRd {p : Addr} (e : h p = some (.lst xs)) (e2 : atI xs i = some d) : dIx (.ref p) (.int i) h Q = Q d h := by simp [u_ixR e, e2]
theorem at0 : atI (x :: xs) 0 = some x := by simp [atI, ixN]
theorem at1 : atI (x :: y :: xs) 1 = some y := by
  have : (1 : Int) < (xs.length : Int) + 1 + 1 := by omega
  simp [atI, ixN, this]
theorem at2 : atI (x :: y :: z :: xs) 2 = some z := by
  have : (2 : Int) < (xs.length : Int) + 1 + 1 + 1 := by omega
  simp [atI, ixN, this]
theorem u_abs : dAbs [.int i] h Q = Q (.int (if i < 0 then -i else i)) h := rfl
theorem u_intI : dInt [.int i] h Q = Q (.int i) h := rfl
theorem u_intB {k : Bool} : dInt [.bl k] h Q = Q (.int (if k then 1 else 0)) h := rfl
theorem u_lenL : dLen [.lst xs] h Q = Q (.int (xs.length : Nat)) h := by simp [dLen, lenD, cur]
theorem u_lenT : dLen [.tup xs] h Q = Q (.int (xs.length : Nat)) h := by simp [dLen, lenD, cur]
theorem u_lenR {p : Addr} (e : h p = some (.lst xs)) : dLen [.ref p] h Q = Q (.int (xs.length : Nat)) h := by simp [dLen, lenD, cur, e]
theorem u_newT : newL true xs h Q = ∀ p, h p = none → Q (.ref p) (up h p (.lst xs)) := by simp [newL]
theorem u_newF : newL false xs h Q = Q (.lst xs) h := by simp [newL]
theorem u_isN : dIsN (fun b => b) .non .non h Q = Q (.bl true) h := rfl
theorem u_notN : dIsN (fun b => !b) .non .non h Q = Q (.bl false) h := rfl
end
/-! ### == of lists -/
theorem pd_ints (cs : List Int) : pds (cs.map D.int) = cs.map PyData.int := by
  induction cs with
  | nil => rfl
  | cons c cs ih => rw [List.map_cons, pds, ih, pd]; rfl
theorem dats_ints (cs : List Int) : dats (cs.map D.int) = true := by
  induction cs with
  | nil => rfl
  | cons c cs ih => rw [List.map_cons, dats, ih]; rfl
theorem lay_ints (cs : List Int) : PyData.canLayAll0 (cs.map PyData.int) = true := by
  induction cs with
  | nil => rw [List.map_nil, PyData.canLayAll0]
  | cons c cs ih => rw [List.map_cons, PyData.canLayAll0, ih, PyData.canLay0]; rfl
theorem dep_ints (cs : List Int) : PyData.depthAll (cs.map PyData.int) = 0 := by
  induction cs with
  | nil => rw [List.map_nil, PyData.depthAll]
  | cons c cs ih => rw [List.map_cons, PyData.depthAll, ih, PyData.depth]; rfl
theorem sh_lst (cs : List Int) : SeqAt.shaped (pd (.lst (cs.map D.int))) = true := by
  rw [pd, pd_ints]; unfold SeqAt.shaped
  rw [PyData.canLay0, PyData.depth, lay_ints, dep_ints]; rfl
theorem eqv_ints : ∀ cs ds : List Int, PyData.eqvAll (cs.map PyData.int) (ds.map PyData.int) = decide (cs = ds)
  | [], [] => by rw [List.map_nil, PyData.eqvAll]; rfl
  | [], d :: ds => by rw [List.map_nil, List.map_cons, PyData.eqvAll]; rfl
  | c :: cs, [] => by rw [List.map_nil, List.map_cons, PyData.eqvAll]; rfl
  | c :: cs, d :: ds => by
    rw [List.map_cons, List.map_cons, PyData.eqvAll, PyData.eqv, eqv_ints cs ds]
    by_cases e : c = d <;> simp [e]
theorem eq_lst {f : Bool → Bool} {cs ds : List Int} {h : AH} {Q : KD} (q : Q (.bl (f (decide (cs = ds)))) h) : dEq f (.lst (cs.map D.int)) (.lst (ds.map D.int)) h Q := by
  refine ⟨by show dats _ = true; exact dats_ints cs, by show dats _ = true; exact dats_ints ds, sh_lst cs, sh_lst ds, ?_⟩
  show Q (.bl (f (PyData.eqv (pd (.lst (cs.map D.int))) (pd (.lst (ds.map D.int)))))) h
  rw [pd, pd, PyData.eqv, pd_ints, pd_ints, eqv_ints]; exact q
theorem eq_nil {f : Bool → Bool} {cs : List Int} {h : AH} {Q : KD} (q : Q (.bl (f (decide (cs = [])))) h) : dEq f (.lst (cs.map D.int)) (.lst []) h Q := eq_lst (ds := []) q
/-- a statement, then the rest, over what stands between -/
theorem seq_go {s1 s2 : WS} {D0 : EndsD} {ρ : EnvD} {h : AH} (P : EnvD → AH → Prop) (h1 : ∀ K : EnvD → AH → Prop, (∀ ρ h, P ρ h → K ρ h) → s1 { D0 with nx := K } ρ h) (h2 : ∀ ρ h, P ρ h → s2 D0 ρ h) : wSeq s1 s2 D0 ρ h := h1 _ h2
theorem loop_go {st : AH → Prop} {g : WG} {tb : WS} {Z : EndsD} {xs : List D} {ρ : EnvD} {h : AH} (P : Nat → EnvD → AH → Prop) (h0 : P 0 ρ h) (hst : ∀ i ρ h, P i ρ h → st h)
    (hs : ∀ i x ρ h (K : EnvD → AH → Prop), xs[i]? = some x → P i ρ h → (∀ ρ h, P (i + 1) ρ h → K ρ h) → g x ρ h (fun ρ2 h2 => tb { Z with nx := K, ct := K, bk := Z.nx } ρ2 h2) Z.ex) (hd : ∀ ρ h, P xs.length ρ h → Z.nx ρ h) : loopD st g tb Z xs ρ h := by
  suffices H : ∀ (n i : Nat), xs.length - i = n → i ≤ xs.length → ∀ ρ h, P i ρ h → loopD st g tb Z (xs.drop i) ρ h by
    simpa using H xs.length 0 (by simp) (Nat.zero_le _) ρ h h0
  intro n
  induction n with
  | zero =>
    intro i e l ρ h p
    obtain rfl : i = xs.length := by omega
    rw [List.drop_length]
    exact ⟨hst _ _ _ p, hd _ _ p⟩
  | succ n ih =>
    intro i e l ρ h p
    have lt : i < xs.length := by omega
    rw [List.drop_eq_getElem_cons lt]
    exact ⟨hst _ _ _ p, hs i _ ρ h (loopD st g tb Z (xs.drop (i + 1))) (List.getElem?_eq_getElem lt) p fun ρ h q => ih (i + 1) (by omega) lt ρ h q⟩
/-- a comprehension: P by the turn and the heap -/
theorem comp_go {st : AH → Prop} {g : WG} {tt : WT} {te : WE} {vs : List Nat} {ρ : EnvD} {p : Addr} {xs : List D} {h : AH} {Q : AH → Prop} (P : Nat → AH → Prop) (h0 : P 0 h) (hst : ∀ i h, P i h → st h)
    (hs : ∀ i x h (K : AH → Prop), xs[i]? = some x → P i h → (∀ h, P (i + 1) h → K h) → g x (wipeD ρ vs) h (fun ρ2 h2 => tt ρ2 h2 (fun b h3 => if b = true then te ρ2 h3 (fun y h4 => ∃ acc, h4 p = some (.lst acc) ∧ acc.length < sizeLine ∧ K (up h4 p (.lst (acc ++ [y])))) (fun _ _ => False) else K h3) (fun _ _ => False)) (fun _ _ => False))
    (hd : ∀ h, P xs.length h → Q h) : compD st g tt te vs ρ p xs h Q := by
  suffices H : ∀ (n i : Nat), xs.length - i = n → i ≤ xs.length → ∀ h, P i h → compD st g tt te vs ρ p (xs.drop i) h Q by
    simpa using H xs.length 0 (by simp) (Nat.zero_le _) h h0
  intro n
  induction n with
  | zero =>
    intro i e l h p
    obtain rfl : i = xs.length := by omega
    rw [List.drop_length]
    exact ⟨hst _ _ p, hd _ p⟩
  | succ n ih =>
    intro i e l h q
    have lt : i < xs.length := by omega
    rw [List.drop_eq_getElem_cons lt]
    exact ⟨hst _ _ q, hs i _ h (fun h => compD st g tt te vs ρ p (xs.drop (i + 1)) h Q) (List.getElem?_eq_getElem lt) q fun h z => ih (i + 1) (by omega) lt h z⟩
/-- .. where the heap is as it was but for the new list, whose items come one by one: f item or none -/
theorem comp_pure {st : AH → Prop} {g : WG} {tt : WT} {te : WE} {vs : List Nat} {ρ : EnvD} {p : Addr} {xs : List D} {h : AH} {Q : AH → Prop} (f : D → Option D) (hst : ∀ acc, st (up h p (.lst acc))) (hl : xs.length ≤ sizeLine)
    (hs : ∀ x acc (K : AH → Prop), x ∈ xs → acc.length < sizeLine → K (up h p (.lst (acc ++ (f x).toList))) → g x (wipeD ρ vs) (up h p (.lst acc)) (fun ρ2 h2 => tt ρ2 h2 (fun b h3 => if b = true then te ρ2 h3 (fun y h4 => ∃ acc, h4 p = some (.lst acc) ∧ acc.length < sizeLine ∧ K (up h4 p (.lst (acc ++ [y])))) (fun _ _ => False) else K h3) (fun _ _ => False)) (fun _ _ => False))
    (hd : Q (up h p (.lst (xs.filterMap f)))) : compD st g tt te vs ρ p xs (up h p (.lst [])) Q := by
  refine comp_go (fun i h' => ∃ acc, acc = (xs.take i).filterMap f ∧ h' = up h p (.lst acc)) ⟨[], by simp, rfl⟩ (fun i h' ⟨acc, _, e⟩ => e ▸ hst acc) ?_ ?_
  · rintro i x h' K e ⟨acc, rfl, rfl⟩ k
    have li := (List.getElem?_eq_some_iff.mp e).1
    refine hs x _ K (List.mem_of_getElem? e) ?_ (k _ ⟨_, ?_, rfl⟩)
    · have := List.length_filterMap_le f (xs.take i)
      simp at this; omega
    · rw [List.take_succ, e, Option.toList_some, List.filterMap_append]
      congr 1
  · rintro h' ⟨acc, rfl, rfl⟩
    rw [List.take_length]
    exact hd
end DL
namespace DL
open PySem PySem.Spec L2 C8
/-! ### the pen: cells, where it stands, what is left of a great cell -/
def PenO (n : Int) (o : AO) : Prop := ∃ (cs : List Int) (at_ gr : Int), o = .lst [.lst (cs.map D.int), .int at_, .int gr] ∧ cs.length ≤ 63 ∧ 0 ≤ at_ ∧ at_ ≤ n ∧ 0 ≤ gr
def PenAt (n : Int) (h : AH) (p : Addr) : Prop := ∃ o, h p = some o ∧ PenO n o
theorem PenO.mono {n m : Int} {o : AO} (h : PenO n o) (l : n ≤ m) : PenO m o := by
  obtain ⟨cs, a, g, rfl, l1, l2, l3, l4⟩ := h
  exact ⟨cs, a, g, rfl, l1, l2, by omega, l4⟩
def S_draw : FSpec := fun ds h Q _ => ∃ (n : Int) (p : Addr) (m : Int), ds = [.ref p, .int m] ∧ PenAt n h p ∧ n < 1000000 ∧ DivOk m ∧ ∀ v o, 0 ≤ v → v < m → PenO (n + 1) o → Q (.int v) (up h p o)
theorem mo_draw : MoF S_draw := fun ds h Q Q' X X' hq _ ⟨n, p, m, e, e1, e2, e3, q⟩ => ⟨n, p, m, e, e1, e2, e3, fun v o h1 h2 h3 => hq _ _ (q v o h1 h2 h3)⟩
theorem len_draw : ∀ ds h Q X, S_draw ds h Q X → ds.length = 2 := fun ds h Q X ⟨n, p, m, e, _⟩ => by rw [e]; rfl
def S_pen : FSpec := fun ds h Q _ => ∃ js : List Int, ds = [.lk (js.map D.int)] ∧ ∀ p o, h p = none → PenO 0 o → Q (.ref p) (up h p o)
theorem mo_pen : MoF S_pen := fun ds h Q Q' X X' hq _ ⟨js, e, q⟩ => ⟨js, e, fun p o h1 h2 => hq _ _ (q p o h1 h2)⟩
theorem len_pen : ∀ ds h Q X, S_pen ds h Q X → ds.length = 1 := fun ds h Q X ⟨js, e, _⟩ => by rw [e]; rfl
def w_pen : WS := (wRet (wLst true (wCons (wB (dListOf false) (wCons (wSl false (wVar 0) woNone (woSome (wC (.int 63)))) wNil)) (wCons (wC (.int 0)) (wCons (wC (.int 0)) wNil)))))
theorem cut_to {α : Type} (xs : List α) (n : Nat) : cutD xs none (some (n : Int)) = xs.take n := by
  unfold cutD
  have e0 : HT.sIx xs.length 0 none = 0 := rfl
  rw [e0, List.drop_zero, Nat.sub_zero]
  rw [HT.sIx_nat]
  exact List.take_eq_take_min.symm
theorem p_pen : ∀ ds h Q X, S_pen ds h Q X → w_pen (endsD Q X) (startD 1 ds) h := by
  rintro ds h Q X ⟨js, rfl, q⟩
  show w_pen (endsD Q X) [some (.lk (js.map D.int))] h
  simp only [w_pen, u_asg, u_gN, u_ret, u_retN, u_skip, u_expr, u_ifs, u_c, u_op, u_neg, u_test, u_and, u_or, u_not, u_if, u_nil, u_cons, u_tup, u_lst, u_callP, u_call, u_b, u_chain, u_andV, u_addI, u_subI, u_mulI, u_divI, u_modI, u_powI, u_cmpI, u_eqI, u_eqS, u_eqB, u_abs, u_intI, u_intB, u_newT, u_newF, u_isN, u_notN, wVar, List.set_cons_zero, List.set_cons_succ, List.getElem?_cons_zero, List.getElem?_cons_succ, List.length_cons, List.length_nil, wSl, woNone, woSome, dSl, dListOf]
  refine ⟨_, _, rfl, rfl, (by decide : 3 ≤ sizeLine), fun p hp => fin_of (q p _ hp ⟨js.take 63, 0, 0, ?_, by simp; omega, by omega, by omega, by omega⟩)⟩
  rw [show (63 : Int) = ((63 : Nat) : Int) by rfl, cut_to, List.map_take]
def w_draw : WS := (wSeq (wIfS (wTest (wOp (dCmpI fun i j => decide (j < i)) (wOp dIx (wVar 0) (wC (.int 2))) (wC (.int 0)))) (wSeq (wAsg (wOp dMod (wOp dIx (wVar 0) (wC (.int 2))) (wVar 1)) (gN 2))
  (wSeq (wAsg (wOp dDiv (wOp dIx (wVar 0) (wC (.int 2))) (wVar 1)) (gSubL (wVar 0) (wC (.int 2))))
  (wRet (wVar 2)))) wSkip)
  (wSeq (wAsg (wOp dIx (wVar 0) (wC (.int 1))) (gN 3))
  (wSeq (wAsg (wOp (dAdd false) (wVar 3) (wC (.int 1))) (gSubL (wVar 0) (wC (.int 1))))
  (wSeq (wAsg (wOp (dAdd false) (wOp (dMul false) (wC (.int 70891)) (wVar 3)) (wC (.int 37))) (gN 4))
  (wSeq (wIfS (wTest (wOp (dEq fun b => !b) (wOp dIx (wVar 0) (wC (.int 0))) (wLst false wNil))) (wAsg (wOp dIx (wOp dIx (wVar 0) (wC (.int 0))) (wOp dMod (wVar 3) (wB dLen (wCons (wOp dIx (wVar 0) (wC (.int 0))) wNil)))) (gN 4)) wSkip)
  (wSeq (wIfS (wAnd (wTest (wOp (dCmpI fun i j => decide (i < j)) (wVar 3) (wB dLen (wCons (wOp dIx (wVar 0) (wC (.int 0))) wNil)))) (wTest (wOp (dCmpI fun i j => decide (j ≤ i)) (wB dAbs (wCons (wVar 4) wNil)) (wOp dPow (wC (.int 10)) (wC (.int 18)))))) (wSeq (wAsg (wOp (dAdd false) (wOp (dMul false) (wC (.int 2)) (wB dAbs (wCons (wVar 4) wNil))) (wB dInt (wCons (wOp (dCmpI fun i j => decide (i < j)) (wVar 4) (wC (.int 0))) wNil))) (gN 5))
  (wSeq (wAsg (wOp dDiv (wVar 5) (wVar 1)) (gSubL (wVar 0) (wC (.int 2))))
  (wRet (wOp dMod (wVar 5) (wVar 1))))) wSkip)
  (wSeq (wAsg (wOp dMod (wOp dPow (wOp (dAdd false) (wOp (dAdd false) (wOp (dAdd false) (wOp dMod (wVar 4) (wC (.int 2147483563))) (wOp (dMul false) (wOp (dMul false) (wC (.int 50147)) (wVar 3)) (wVar 3))) (wOp (dMul false) (wC (.int 30011)) (wVar 3))) (wC (.int 67))) (wC (.int 3))) (wC (.int 2147483647))) (gN 6))
  (wSeq (wAsg (wOp dMod (wOp dPow (wOp (dAdd false) (wOp (dAdd false) (wOp (dMul false) (wVar 6) (wOp (dAdd false) (wOp (dMul false) (wC (.int 2)) (wVar 3)) (wC (.int 40009)))) (wOp (dMul false) (wC (.int 17)) (wVar 3))) (wC (.int 11))) (wC (.int 5))) (wC (.int 2147483629))) (gN 6))
  (wRet (wOp dMod (wOp dDiv (wVar 6) (wC (.int 64))) (wVar 1)))))))))))
theorem atI_nat {α : Type} {xs : List α} {j : Nat} (h : j < xs.length) : atI xs (j : Int) = xs[j]? := by
  have h1 : ixN xs.length (j : Int) = some j := by
    unfold ixN
    simp; omega
  unfold atI
  rw [h1]; rfl
theorem mul_l {i j : Int} (h : -(2 ^ 64) < i ∧ i < 2 ^ 64) : MulOk i j := .inl h
theorem sq_le {a b : Int} (h0 : 0 ≤ a) (h : a ≤ b) : a * a ≤ b * b := Int.mul_le_mul h h h0 (by omega)
theorem p_draw : ∀ ds h Q X, S_draw ds h Q X → w_draw (endsD Q X) (startD 7 ds) h := by
  rintro ds h Q X ⟨n, p, m, rfl, ⟨_, hp, cs, at_, gr, rfl, l1, l2, l3, l4⟩, hn, dm, q⟩
  show w_draw (endsD Q X) [some (.ref p), some (.int m), none, none, none, none, none] h
  have hm : 0 < m := dm.1
  unfold w_draw
  rw [u_seq]
  simp only [u_asg, u_gN, u_ret, u_retN, u_skip, u_expr, u_ifs, u_c, u_op, u_neg, u_test, u_and, u_or, u_not, u_if, u_nil, u_cons, u_tup, u_lst, u_callP, u_call, u_b, u_chain, u_andV, u_addI, u_subI, u_mulI, u_divI, u_modI, u_powI, u_cmpI, u_eqI, u_eqS, u_eqB, u_abs, u_intI, u_intB, u_newT, u_newF, u_isN, u_notN, wVar, List.set_cons_zero, List.set_cons_succ, List.getElem?_cons_zero, List.getElem?_cons_succ, List.length_cons, List.length_nil, u_ixRd hp at2]
  by_cases c : 0 < gr
  · simp only [decide_eq_true c, if_true, u_seq, u_asg, u_gN, u_ret, u_retN, u_skip, u_expr, u_ifs, u_c, u_op, u_neg, u_test, u_and, u_or, u_not, u_if, u_nil, u_cons, u_tup, u_lst, u_callP, u_call, u_b, u_chain, u_andV, u_addI, u_subI, u_mulI, u_divI, u_modI, u_powI, u_cmpI, u_eqI, u_eqS, u_eqB, u_abs, u_intI, u_intB, u_newT, u_newF, u_isN, u_notN, wVar, List.set_cons_zero, List.set_cons_succ, List.getElem?_cons_zero, List.getElem?_cons_succ, List.length_cons, List.length_nil, u_ixRd hp at2, gSubL]
    refine ⟨hm, dm, p, _, 2, 2, rfl, rfl, hp, rfl, fin_of (q _ _ (Int.emod_nonneg _ (by omega)) (Int.emod_lt_of_pos _ hm) ⟨cs, at_, gr / m, rfl, l1, l2, by omega, Int.ediv_nonneg l4 (by omega)⟩)⟩
  simp only [decide_eq_false c, Bool.false_eq_true, if_false]
  rw [u_seq]
  simp only [u_asg, u_gN, u_ret, u_retN, u_skip, u_expr, u_ifs, u_c, u_op, u_neg, u_test, u_and, u_or, u_not, u_if, u_nil, u_cons, u_tup, u_lst, u_callP, u_call, u_b, u_chain, u_andV, u_addI, u_subI, u_mulI, u_divI, u_modI, u_powI, u_cmpI, u_eqI, u_eqS, u_eqB, u_abs, u_intI, u_intB, u_newT, u_newF, u_isN, u_notN, wVar, List.set_cons_zero, List.set_cons_succ, List.getElem?_cons_zero, List.getElem?_cons_succ, List.length_cons, List.length_nil, u_ixRd hp at1]
  rw [u_seq]
  simp only [u_asg, u_gN, u_ret, u_retN, u_skip, u_expr, u_ifs, u_c, u_op, u_neg, u_test, u_and, u_or, u_not, u_if, u_nil, u_cons, u_tup, u_lst, u_callP, u_call, u_b, u_chain, u_andV, u_addI, u_subI, u_mulI, u_divI, u_modI, u_powI, u_cmpI, u_eqI, u_eqS, u_eqB, u_abs, u_intI, u_intB, u_newT, u_newF, u_isN, u_notN, wVar, List.set_cons_zero, List.set_cons_succ, List.getElem?_cons_zero, List.getElem?_cons_succ, List.length_cons, List.length_nil, gSubL]
  refine ⟨p, _, 1, 1, rfl, rfl, hp, rfl, ?_⟩
  have e1 : ([D.lst (cs.map D.int), D.int at_, D.int gr].set 1 (D.int (at_ + 1))) = [D.lst (cs.map D.int), D.int (at_ + 1), D.int gr] := rfl
  rw [e1]
  have ug : ∀ o, up (up h p (.lst [D.lst (cs.map D.int), D.int (at_ + 1), D.int gr])) p o = up h p o := fun o => up_up
  have gp : (up h p (.lst [D.lst (cs.map D.int), D.int (at_ + 1), D.int gr])) p = some (.lst [D.lst (cs.map D.int), D.int (at_ + 1), D.int gr]) := up_same
  have fin0 : ∀ v, 0 ≤ v → v < m → Q (.int v) (up h p (.lst [D.lst (cs.map D.int), D.int (at_ + 1), D.int gr])) := fun v h1 h2 => q v _ h1 h2 ⟨cs, at_ + 1, gr, rfl, l1, by omega, by omega, l4⟩
  have fin1 : ∀ v g, 0 ≤ v → v < m → 0 ≤ g → Q (.int v) (up h p (.lst [D.lst (cs.map D.int), D.int (at_ + 1), D.int g])) := fun v g h1 h2 h3 => q v _ h1 h2 ⟨cs, at_ + 1, g, rfl, l1, by omega, by omega, h3⟩
  generalize hg : up h p (.lst [D.lst (cs.map D.int), D.int (at_ + 1), D.int gr]) = g at gp ug fin0 ⊢
  rw [u_seq]
  simp only [u_asg, u_gN, u_ret, u_retN, u_skip, u_expr, u_ifs, u_c, u_op, u_neg, u_test, u_and, u_or, u_not, u_if, u_nil, u_cons, u_tup, u_lst, u_callP, u_call, u_b, u_chain, u_andV, u_addI, u_subI, u_mulI, u_divI, u_modI, u_powI, u_cmpI, u_eqI, u_eqS, u_eqB, u_abs, u_intI, u_intB, u_newT, u_newF, u_isN, u_notN, wVar, List.set_cons_zero, List.set_cons_succ, List.getElem?_cons_zero, List.getElem?_cons_succ, List.length_cons, List.length_nil]
  refine ⟨mul_l (by decide), ?_⟩
  -- the cell
  refine seq_go (fun ρ h => g = h ∧ ∃ c : Int, ρ = [some (.ref p), some (.int m), none, some (.int at_), some (.int c), none, none]) (fun K k => ?_) ?_
  · simp only [u_asg, u_gN, u_ret, u_retN, u_skip, u_expr, u_ifs, u_c, u_op, u_neg, u_test, u_and, u_or, u_not, u_if, u_nil, u_cons, u_tup, u_lst, u_callP, u_call, u_b, u_chain, u_andV, u_addI, u_subI, u_mulI, u_divI, u_modI, u_powI, u_cmpI, u_eqI, u_eqS, u_eqB, u_abs, u_intI, u_intB, u_newT, u_newF, u_isN, u_notN, wVar, List.set_cons_zero, List.set_cons_succ, List.getElem?_cons_zero, List.getElem?_cons_succ, List.length_cons, List.length_nil, u_ixRd gp at0]
    refine ⟨Nat.zero_le _, eq_nil ?_⟩
    by_cases z : cs = []
    · rw [decide_eq_true z]
      exact k _ _ ⟨rfl, _, rfl⟩
    rw [decide_eq_false z]
    simp only [Bool.not_false, if_true, u_ixRd gp at0, u_lenL, u_modI, u_ixL]
    have lc : 0 < cs.length := List.length_pos_iff.mpr z
    have lp : (0 : Int) < ((cs.map D.int).length : Nat) := by rw [List.length_map]; omega
    refine ⟨lp, ?_⟩
    have a0 := Int.emod_nonneg at_ (show (((cs.map D.int).length : Nat) : Int) ≠ 0 by omega)
    have a1 := Int.emod_lt_of_pos at_ lp
    obtain ⟨j, ej⟩ := Int.eq_ofNat_of_zero_le a0
    rw [ej] at a1 ⊢
    rw [List.length_map] at a1
    have lj : j < cs.length := by omega
    refine ⟨.int cs[j], ?_, k _ _ ⟨rfl, _, rfl⟩⟩
    rw [atI_nat (by rw [List.length_map]; exact lj), List.getElem?_map, List.getElem?_eq_getElem lj]
    rfl
  rintro _ _ ⟨rfl, c, rfl⟩
  refine seq_go (fun ρ h => g = h ∧ ρ = [some (.ref p), some (.int m), none, some (.int at_), some (.int c), none, none]) (fun K k => ?_) ?_
  · simp only [u_asg, u_gN, u_ret, u_retN, u_skip, u_expr, u_ifs, u_c, u_op, u_neg, u_test, u_and, u_or, u_not, u_if, u_nil, u_cons, u_tup, u_lst, u_callP, u_call, u_b, u_chain, u_andV, u_addI, u_subI, u_mulI, u_divI, u_modI, u_powI, u_cmpI, u_eqI, u_eqS, u_eqB, u_abs, u_intI, u_intB, u_newT, u_newF, u_isN, u_notN, wVar, List.set_cons_zero, List.set_cons_succ, List.getElem?_cons_zero, List.getElem?_cons_succ, List.length_cons, List.length_nil, u_ixRd gp at0, u_lenL]
    have k := k _ _ ⟨rfl, rfl⟩
    by_cases z : at_ < ((cs.map D.int).length : Nat)
    · rw [decide_eq_true z]
      simp only [if_true]
      refine ⟨by refine ⟨by decide, by decide, by decide⟩, ?_⟩
      by_cases y : (10 ^ Int.toNat 18 : Int) ≤ if c < 0 then -c else c
      · rw [if_pos (decide_eq_true y)]
        simp only [u_seq, u_asg, u_gN, u_ret, u_retN, u_skip, u_expr, u_ifs, u_c, u_op, u_neg, u_test, u_and, u_or, u_not, u_if, u_nil, u_cons, u_tup, u_lst, u_callP, u_call, u_b, u_chain, u_andV, u_addI, u_subI, u_mulI, u_divI, u_modI, u_powI, u_cmpI, u_eqI, u_eqS, u_eqB, u_abs, u_intI, u_intB, u_newT, u_newF, u_isN, u_notN, wVar, List.set_cons_zero, List.set_cons_succ, List.getElem?_cons_zero, List.getElem?_cons_succ, List.length_cons, List.length_nil, gSubL]
        have nn : 0 ≤ 2 * (if c < 0 then -c else c) + (if decide (c < 0) = true then 1 else 0) := by split <;> split <;> omega
        refine ⟨mul_l (by decide), dm, p, _, 2, 2, rfl, rfl, gp, rfl, hm, fin_of ?_⟩
        rw [ug]
        exact fin1 _ _ (Int.emod_nonneg _ (by omega)) (Int.emod_lt_of_pos _ hm) (Int.ediv_nonneg nn (by omega))
      · rw [if_neg (by rw [decide_eq_false y]; decide)]
        exact k
    · rw [decide_eq_false z]
      exact k
  rintro _ _ ⟨rfl, rfl⟩
  simp only [u_seq, u_asg, u_gN, u_ret, u_retN, u_skip, u_expr, u_ifs, u_c, u_op, u_neg, u_test, u_and, u_or, u_not, u_if, u_nil, u_cons, u_tup, u_lst, u_callP, u_call, u_b, u_chain, u_andV, u_addI, u_subI, u_mulI, u_divI, u_modI, u_powI, u_cmpI, u_eqI, u_eqS, u_eqB, u_abs, u_intI, u_intB, u_newT, u_newF, u_isN, u_notN, wVar, List.set_cons_zero, List.set_cons_succ, List.getElem?_cons_zero, List.getElem?_cons_succ, List.length_cons, List.length_nil]
  have b1 : 0 ≤ c % 2147483563 := Int.emod_nonneg _ (by decide)
  have b2 : c % 2147483563 < 2147483563 := Int.emod_lt_of_pos _ (by decide)
  have b3 : at_ ≤ 1000000 := by omega
  have b4 : 50147 * at_ * at_ ≤ 50147 * 1000000000000 := by
    rw [Int.mul_assoc]
    have := sq_le l2 b3
    omega
  have b5 : 0 ≤ 50147 * at_ * at_ := Int.mul_nonneg (by omega) l2
  generalize e5 : 50147 * at_ * at_ = t at b4 b5 ⊢
  generalize e6 : (c % 2147483563 + t + 30011 * at_ + 67) = u
  have b6 : 0 ≤ u ∧ u < 2 ^ 63 := by omega
  generalize e7 : u ^ Int.toNat 3 % 2147483647 = v
  have b7 : 0 ≤ v ∧ v < 2147483647 := by rw [← e7]; exact ⟨Int.emod_nonneg _ (by decide), Int.emod_lt_of_pos _ (by decide)⟩
  have b8 : v * (2 * at_ + 40009) ≤ 2147483647 * (2 * 1000000 + 40009) := Int.mul_le_mul (by omega) (by omega) (by omega) (by omega)
  have b9 : 0 ≤ v * (2 * at_ + 40009) := Int.mul_nonneg b7.1 (by omega)
  refine ⟨by decide, mul_l (by decide), mul_l (by omega), mul_l (by decide), ⟨by decide, by decide, by omega⟩, by decide, mul_l (by decide), mul_l (by omega), mul_l (by decide), ⟨by decide, by decide, by omega⟩, by decide, ⟨by decide, .inl (by decide)⟩, hm, fin_of (fin0 _ (Int.emod_nonneg _ (by omega)) (Int.emod_lt_of_pos _ hm))⟩
end DL
namespace DL
open PySem PySem.Spec L2 C8
section
variable {ρ : EnvD} {h : AH} {Q : KD} {X : KX} {D0 : EndsD} {xs : List D} {p q : Addr} {o u : AO}
theorem up_get (hp : h p = none) (hq : h q = some o) : (up h p u) q = some o := by
  rw [up_ne (by rintro rfl; rw [hp] at hq; cases hq)]; exact hq
theorem endF (hp : h p = none) (k : Q (.lst xs) h) : endL false p Q (up h p (.lst xs)) := ⟨xs, up_same, by rw [rm_up, rm_none hp]; exact k⟩
theorem u_lc {m : Bool} {wi : WI} {g : WG} {tt : WT} {te : WE} {vs : List Nat} : wLc m wi g tt te vs ρ h Q X = wi ρ h (fun xs st h1 => ∀ p, h1 p = none → compD st g tt te vs ρ p xs (up h1 p (.lst [])) (endL m p Q)) X := rfl
theorem u_for {wi : WI} {g : WG} {tb : WS} : wFor wi g tb D0 ρ h = wi ρ h (fun xs st h1 => loopD st g tb D0 xs ρ h1) D0.ex := rfl
theorem u_r1 {l : WA} {R : List D → (AH → Prop) → AH → Prop} : iRng1 l ρ h R X = l ρ h (fun ds h1 => match ds with
  | [.int j] => -(2 ^ 62) ≤ j ∧ j < 2 ^ 62 ∧ R (intsD 0 j.toNat) (fun _ => True) h1
  | _ => False) X := rfl
theorem u_r2 {l : WA} {R : List D → (AH → Prop) → AH → Prop} : iRng2 l ρ h R X = l ρ h (fun ds h1 => match ds with
  | [.int i, .int j] => (-(2 ^ 62) ≤ i ∧ i < 2 ^ 62 ∧ -(2 ^ 62) ≤ j ∧ j < 2 ^ 62) ∧ R (intsD i (j - i).toNat) (fun _ => True) h1
  | _ => False) X := rfl
theorem u_r3 {l : WA} {R : List D → (AH → Prop) → AH → Prop} : iRng3 l ρ h R X = l ρ h (fun ds h1 => match ds with
  | [.int i, .int j, .int c] => ∃ n, RgC i j c n ∧ R (stepD i c n) (fun _ => True) h1
  | _ => False) X := rfl
theorem u_seqi {a : WE} {R : List D → (AH → Prop) → AH → Prop} : iSeq a ρ h R X = a ρ h (fun x h1 => match x with
  | .lst xs => R xs (fun _ => True) h1
  | .ref a => ∃ xs, h1 a = some (.lst xs) ∧ R xs (fun h => h a = some (.lst xs)) h1
  | _ => False) X := rfl
theorem u_tupi {a : WE} {R : List D → (AH → Prop) → AH → Prop} : iTupD a ρ h R X = a ρ h (fun x h1 => match x with
  | .tup xs => R xs (fun _ => True) h1
  | .tpl xs => R xs (fun _ => True) h1
  | _ => False) X := rfl
theorem u_num {l : WA} {R : List D → (AH → Prop) → AH → Prop} : iNum l ρ h R X = l ρ h (fun ds h1 => match ds with
  | [.tup xs] => R (numD xs) (fun _ => True) h1
  | _ => False) X := rfl
theorem u_notV {a : WE} : wNotV a ρ h Q X = a ρ h (fun x h1 => match x with
  | .bl b => Q (.bl (!b)) h1
  | _ => False) X := rfl
theorem u_yes {Q : Bool → AH → Prop} : wYes ρ h Q X = Q true h := rfl
theorem u_w0 : wipeD ρ [] = ρ := rfl
theorem u_w1 {v : Nat} {vs : List Nat} : wipeD ρ (v :: vs) = (wipeD ρ vs).set v none := rfl
end
/-- tuple, list of ints -/
abbrev tpI (es : List Int) : D := .tup (es.map D.int)
abbrev lsI (es : List Int) : D := .lst (es.map D.int)
theorem at_last {es : List Int} (h : 0 < es.length) : atI (es.map D.int) (-1) = some (.int (es.getD (es.length - 1) 0)) := by
  have e : ixN (es.map D.int).length (-1) = some (es.length - 1) := by
    unfold ixN
    rw [List.length_map, if_neg (by omega), if_pos (by omega)]
    congr 1; omega
  unfold atI
  rw [e]
  show (es.map D.int)[es.length - 1]? = _
  have l : es.length - 1 < es.length := by omega
  rw [List.getElem?_map, List.getElem?_eq_getElem l, List.getD_eq_getElem?_getD, List.getElem?_eq_getElem l]
  rfl
theorem at_nth {es : List Int} {k : Nat} (h : k < es.length) : atI (es.map D.int) (k : Int) = some (.int (es.getD k 0)) := by
  rw [atI_nat (by rw [List.length_map]; exact h), List.getElem?_map, List.getElem?_eq_getElem h, List.getD_eq_getElem?_getD, List.getElem?_eq_getElem h]
  rfl
theorem mem_intsD {lo : Int} {n : Nat} {x : D} (h : x ∈ intsD lo n) : ∃ k : Nat, k < n ∧ x = .int (lo + k) := by
  unfold intsD at h
  obtain ⟨k, hk, rfl⟩ := List.mem_map.mp h
  exact ⟨k, List.mem_range.mp hk, rfl⟩
theorem mem_stepD {lo c : Int} {n : Nat} {x : D} (h : x ∈ stepD lo c n) : ∃ k : Nat, k < n ∧ x = .int (lo + k * c) := by
  unfold stepD at h
  obtain ⟨k, hk, rfl⟩ := List.mem_map.mp h
  exact ⟨k, List.mem_range.mp hk, rfl⟩
/-! ### how long a repr is -/
theorem txt_len (ts : List Str) : ∀ (k : Nat) (acc : Str), (textFrom k acc ts).length ≤ acc.length + (ts.map fun t => t.length + 2).sum := by
  induction ts with
  | nil => intro k acc; exact Nat.le_add_right _ _
  | cons t ts ih =>
    intro k acc
    have h := ih (k + 1) (acc ++ (if k > 0 then ", " else "" : String) ++ t)
    rw [Str.length_append, Str.length_append] at h
    have l2 : ((if k > 0 then ", " else "" : String) : Str).length ≤ 2 := by split <;> decide
    show (textFrom (k + 1) _ ts).length ≤ _
    rw [List.map_cons, List.sum_cons]
    omega
theorem lst_len (ts : List Str) : (listText ts).length ≤ 2 + (ts.map fun t => t.length + 2).sum := by
  have h := txt_len ts 0 "["
  unfold listText
  rw [Str.length_append]
  have l1 : (("[" : String) : Str).length = 1 := by decide
  have l2 : (("]" : String) : Str).length = 1 := by decide
  omega
theorem lg_lt {n k : Nat} (h : n < 2 ^ k) (hk : 0 < k) : n.log2 < k := by
  by_cases e : n = 0
  · subst e; exact hk
  · exact (Nat.log2_lt e).mpr h
theorem int_len {i : Int} {k : Nat} (hk : 0 < k) (h : i.natAbs < 2 ^ k) : (PyData.int i).shown.length ≤ k + 1 := by
  rw [PyData.shown]
  have e := int_text_length_le (a := i) hk (lg_lt h hk)
  show (Str.ofString (toString i)).length ≤ k + 1
  rw [ofString_length]; exact e
theorem all_len {ds : List PyData} {c : Nat} (h : ∀ d ∈ ds, d.shown.length ≤ c) : ((PyData.shownAll ds).map fun t => t.length + 2).sum ≤ ds.length * (c + 2) := by
  induction ds with
  | nil => rw [PyData.shownAll]; exact Nat.zero_le _
  | cons d ds ih =>
    rw [PyData.shownAll, List.map_cons, List.sum_cons, List.length_cons, Nat.add_mul]
    have h1 := h d (List.mem_cons_self ..)
    have h2 := ih fun e he => h e (List.mem_cons_of_mem _ he)
    omega
end DL
namespace DL
open PySem PySem.Spec L2 C8
/-! ### repr of rows of small things -/
structure Rp (x : D) (k n : Nat) : Prop where
  da : dat x = true
  sh : (pd x).showable = true
  de : (pd x).depth ≤ k
  le : (pd x).shown.length ≤ n
theorem rp_go {x : D} {k n : Nat} {h : AH} {Q : KD} (r : Rp x k n) (hk : k ≤ 60) (hn : n ≤ 16000000) (c : cur h x = x) (q : Q (.str (pd x).shown) h) : dRepr [x] h Q :=
  ⟨x, rfl, by rw [c]; exact r.da, by rw [c]; exact r.sh, by rw [c]; exact Nat.le_trans r.de hk, by rw [c]; exact Nat.le_trans r.le (Nat.le_trans hn (by decide)), by rw [c]; exact q⟩
theorem rp_int {i : Int} {j : Nat} (hj : 0 < j) (hj2 : j ≤ 1900) (h : i.natAbs < 2 ^ j) : Rp (.int i) 0 (j + 1) :=
  ⟨rfl, by rw [pd, PyData.showable]; exact decide_eq_true (Nat.lt_of_lt_of_le (lg_lt h hj) (Nat.le_trans hj2 (by decide))), by rw [pd, PyData.depth]; exact Nat.le_refl _, by rw [pd]; exact int_len hj h⟩
theorem Rp.up {x : D} {k n l m : Nat} (r : Rp x k n) (h1 : k ≤ l) (h2 : n ≤ m) : Rp x l m := ⟨r.da, r.sh, Nat.le_trans r.de h1, Nat.le_trans r.le h2⟩
theorem rps {k n : Nat} : ∀ {xs : List D}, (∀ x ∈ xs, Rp x k n) → dats xs = true ∧ PyData.showableAll (pds xs) = true ∧ PyData.depthAll (pds xs) ≤ k ∧ ∀ d ∈ pds xs, d.shown.length ≤ n
  | [], _ => ⟨rfl, by rw [pds, PyData.showableAll], by rw [pds, PyData.depthAll]; exact Nat.zero_le _, fun d hd => by rw [pds] at hd; cases hd⟩
  | x :: xs, h => by
    obtain ⟨h1, h2, h3, h4⟩ := rps fun y hy => h y (List.mem_cons_of_mem _ hy)
    have r := h x (List.mem_cons_self ..)
    refine ⟨by rw [dats, r.da, h1]; rfl, by rw [pds, PyData.showableAll, r.sh, h2]; rfl, by rw [pds, PyData.depthAll]; exact Nat.max_le.mpr ⟨r.de, h3⟩, fun d hd => ?_⟩
    rw [pds] at hd
    rcases List.mem_cons.mp hd with rfl | hd
    · exact r.le
    · exact h4 d hd
theorem pds_len (xs : List D) : (pds xs).length = xs.length := by rw [pds_map, List.length_map]
theorem rp_lst {k n l : Nat} {xs : List D} (h : ∀ x ∈ xs, Rp x k n) (hl : xs.length ≤ l) : Rp (.lst xs) (k + 1) (2 + l * (n + 2)) := by
  obtain ⟨h1, h2, h3, h4⟩ := rps h
  refine ⟨h1, by rw [pd, PyData.showable]; exact h2, by rw [pd, PyData.depth]; omega, ?_⟩
  rw [pd, PyData.shown]
  refine Nat.le_trans (lst_len _) ?_
  have := all_len h4
  rw [pds_len] at this
  have := Nat.mul_le_mul_right (n + 2) hl
  omega
end DL
namespace DL
open PySem PySem.Spec L2 C8
/-! ### the heap while a pen is drawn from: what stood in h0 stands, the pen apart -/
structure Inv0 (h0 : AH) (p : Addr) (m : Int) (h : AH) : Prop where
  pen : PenAt m h p
  old : ∀ b o, h0 b = some o → b ≠ p → h b = some o
  isp : ∃ o, h0 p = some o
section
variable {h0 h : AH} {p q : Addr} {m n : Int} {o : AO} {Q : KD} {X : KX}
theorem Inv0.start (e : PenAt m h p) : Inv0 h p m h := ⟨e, fun _ _ e _ => e, let ⟨o, e, _⟩ := e; ⟨o, e⟩⟩
theorem Inv0.mono (I : Inv0 h0 p m h) (l : m ≤ n) : Inv0 h0 p n h := ⟨let ⟨o, e, r⟩ := I.pen; ⟨o, e, r.mono l⟩, I.old, I.isp⟩
theorem Inv0.draw (I : Inv0 h0 p m h) (r : PenO n o) : Inv0 h0 p n (up h p o) := ⟨⟨o, up_same, r⟩, fun b u e c => by rw [up_ne c]; exact I.old b u e c, I.isp⟩
theorem Inv0.fresh (I : Inv0 h0 p m h) (e : h q = none) : h0 q = none ∧ q ≠ p := by
  obtain ⟨u, eu, _⟩ := I.pen
  have c : q ≠ p := by rintro rfl; rw [e] at eu; cases eu
  refine ⟨?_, c⟩
  cases z : h0 q with
  | none => rfl
  | some w => rw [I.old _ _ z c] at e; cases e
theorem Inv0.put (I : Inv0 h0 p m h) (e : h0 q = none) : Inv0 h0 p m (up h q o) := by
  have c : q ≠ p := by rintro rfl; obtain ⟨u, z⟩ := I.isp; rw [e] at z; cases z
  obtain ⟨u, eu, r⟩ := I.pen
  exact ⟨⟨u, by rw [up_ne c.symm]; exact eu, r⟩, fun b w z d => by rw [up_ne (by rintro rfl; rw [e] at z; cases z)]; exact I.old b w z d, I.isp⟩
theorem Inv0.new (I : Inv0 h0 p m h) (e : h q = none) : Inv0 h0 p m (up h q o) := I.put (I.fresh e).1
theorem Inv0.sub (I : Inv0 h0 p m h) : ∃ o, PenO m o ∧ Sub (up h0 p o) h := by
  obtain ⟨u, eu, r⟩ := I.pen
  refine ⟨u, r, fun b w z => ?_⟩
  by_cases c : b = p
  · subst c; rw [up_same] at z; cases z; exact eu
  · rw [up_ne c] at z; exact I.old _ _ z c
theorem draw_go {c : Int} (I : Inv0 h0 p m h) (lm : m < 1000000) (dc : DivOk c) (k : ∀ v o, 0 ≤ v → v < c → Inv0 h0 p (m + 1) (up h p o) → (∀ q, q ≠ p → up h p o q = h q) → Q (.int v) (up h p o)) : S_draw [.ref p, .int c] h Q X :=
  ⟨m, p, c, rfl, I.pen, lm, dc, fun v o h1 h2 r => k v o h1 h2 (I.draw r) fun q hq => up_ne hq⟩
end
theorem div_ok {c : Int} (h : 0 < c) (h2 : c < 1073741824) : DivOk c := ⟨h, .inl h2⟩
/-! ### dicts of ints -/
def toK (es : List (Int × Int)) : List (Key × D) := es.map fun e => ((Sum.inl e.1 : Key), D.int e.2)
theorem dk_ref {h : AH} {a : Addr} {kvs : List (Key × D)} (e : h a = some (.dK kvs)) : dkOf h (.ref a) = some kvs := by
  simp [dkOf, e]
theorem lst_ref {h : AH} {a : Addr} {xs : List D} (e : h a = some (.lst xs)) : lstOf h (.ref a) = some xs := by
  simp [lstOf, e]
theorem ix_nat {n : Nat} {v : Int} (h0 : 0 ≤ v) (h1 : v < n) : ixN n v = some v.toNat := by
  unfold ixN; rw [if_pos h0, if_pos h1]
end DL
namespace DL
open PySem PySem.Spec L2 C8
/-! ### defaults of keyword-only parameters -/
/-- parameters' values: picked, or the default -/
def pickE (ix : List (Nat ⊕ D)) (ds zs : List D) : List D := ix.map fun i => match i with
  | .inl i => ((ds ++ zs)[i]?).getD .non
  | .inr d => d
/-- one keyword-only parameter m that lacks: its default u stands in the def's dict -/
theorem Bnd.dflt {K : PySem.W.Frag} {fd : FuncData} {ps : List Str} {n : Nat} {ks : List Str} {Dk : Addr} {m : Str} {u : Value} {v : V} {d : D} (ix : List (Nat ⊕ D)) (jx : List (Option Nat))
    (hu : PySem.W.nsIn K Dk m = some (some u)) (rv : RelV v u) (rd : ∀ F, Rep K F d v)
    (hj : ix = jx.map fun j => match j with | some i => .inl i | none => .inr d) (hb : (jx.all fun j => match j with | some i => decide (i < n + ks.length) | none => true) = true)
    (h : ∀ us ws : List Value, us.length = n → ws.length = ks.length → KwChain Dk [(m, u)] (bindArgs fd ⟨us, ks.zip ws⟩) (ps.zip (jx.map fun j => match j with | some i => ((us ++ ws)[i]?).getD .none | none => u))) : Bnd K fd ps n ks (pickE ix) := by
  subst hj
  have hi : ∀ i, some i ∈ jx → i < n + ks.length := fun i h => of_decide_eq_true (List.all_eq_true.mp hb _ h)
  clear hb
  refine ⟨fun s F ds zs vs ys us ws X l1 l2 r1 r2 r3 r4 => ⟨jx.map fun j => match j with | some i => ((vs ++ ys)[i]?).getD .non | none => v, jx.map fun j => match j with | some i => ((us ++ ws)[i]?).getD .none | none => u, ?_, ?_,
    BindsTo.of_looks fun M => KwChain.looks X (fun q hq => by
      obtain rfl : q = (m, u) := by simpa using hq
      exact hu) (h us ws (by rw [← r2.length, ← r1.length]; exact l1) (by rw [← r4.length, ← r3.length]; exact l2))⟩⟩
  · have r := r1.append r3
    have l : (ds ++ zs).length = n + ks.length := by simp [l1, l2]
    clear h
    unfold pickE
    rw [List.map_map]
    induction jx with
    | nil => exact .nil
    | cons j jx ih =>
      refine .cons ?_ (ih fun i hi2 => hi i (List.mem_cons_of_mem _ hi2))
      cases j with
      | none => exact rd F
      | some i =>
        have li : i < (ds ++ zs).length := by rw [l]; exact hi i (List.mem_cons_self ..)
        obtain ⟨w, hw, rw_⟩ := r.get (List.getElem?_eq_getElem li)
        show Rep K F (((ds ++ zs)[i]?).getD .non) (((vs ++ ys)[i]?).getD .non)
        simp only [hw, List.getElem?_eq_getElem li]
        exact rw_
  · have r := r2.append r4
    have l : (vs ++ ys).length = n + ks.length := by simp [← r1.length, ← r3.length, l1, l2]
    clear h
    induction jx with
    | nil => exact .nil
    | cons j jx ih =>
      refine .cons ?_ (ih fun i hi2 => hi i (List.mem_cons_of_mem _ hi2))
      cases j with
      | none => exact rv
      | some i =>
        have li : i < (vs ++ ys).length := by rw [l]; exact hi i (List.mem_cons_self ..)
        obtain ⟨w, hw, rw_⟩ := r.get (List.getElem?_eq_getElem li)
        show RelV (((vs ++ ys)[i]?).getD .non) (((us ++ ws)[i]?).getD .none)
        simp only [hw, List.getElem?_eq_getElem li]
        exact rw_
end DL
namespace DL
open PySem PySem.Spec L2 C8
/-! ### == of data that hold no text -/
structure Fl (x : D) (k : Nat) : Prop where
  da : dat x = true
  cl : (pd x).canLay0 = true
  de : (pd x).depth ≤ k
theorem fl_int (i : Int) : Fl (.int i) 0 := ⟨rfl, by rw [pd, PyData.canLay0], by rw [pd, PyData.depth]; exact Nat.le_refl _⟩
theorem Fl.up {x : D} {k l : Nat} (r : Fl x k) (h : k ≤ l) : Fl x l := ⟨r.da, r.cl, Nat.le_trans r.de h⟩
theorem fls {k : Nat} : ∀ {xs : List D}, (∀ x ∈ xs, Fl x k) → dats xs = true ∧ PyData.canLayAll0 (pds xs) = true ∧ PyData.depthAll (pds xs) ≤ k
  | [], _ => ⟨rfl, by rw [pds, PyData.canLayAll0], by rw [pds, PyData.depthAll]; exact Nat.zero_le _⟩
  | x :: xs, h => by
    obtain ⟨h1, h2, h3⟩ := fls fun y hy => h y (List.mem_cons_of_mem _ hy)
    have r := h x (List.mem_cons_self ..)
    exact ⟨by rw [dats, r.da, h1]; rfl, by rw [pds, PyData.canLayAll0, r.cl, h2]; rfl, by rw [pds, PyData.depthAll]; exact Nat.max_le.mpr ⟨r.de, h3⟩⟩
theorem fl_lst {k : Nat} {xs : List D} (h : ∀ x ∈ xs, Fl x k) : Fl (.lst xs) (k + 1) := by
  obtain ⟨h1, h2, h3⟩ := fls h
  exact ⟨h1, by rw [pd, PyData.canLay0]; exact h2, by rw [pd, PyData.depth]; omega⟩
theorem fl_tup {k : Nat} {xs : List D} (h : ∀ x ∈ xs, Fl x k) : Fl (.tup xs) (k + 1) := by
  obtain ⟨h1, h2, h3⟩ := fls h
  exact ⟨h1, by rw [pd, PyData.canLay0]; exact h2, by rw [pd, PyData.depth]; omega⟩
theorem Fl.sh {x : D} {k : Nat} (r : Fl x k) (hk : k ≤ 64) : SeqAt.shaped (pd x) = true := by
  unfold SeqAt.shaped
  rw [r.cl, decide_eq_true (Nat.le_trans r.de hk)]; rfl
theorem Fl.eqv {x : D} {k : Nat} (r : Fl x k) : PyData.eqv (pd x) (pd x) = true := SeqAt.eqv_refl _ r.cl
section
variable {f : Bool → Bool} {xs ys : List D} {h : AH} {Q : KD} {k l : Nat} {a : Addr}
theorem same_tup (r : Fl (.tup xs) k) (hk : k ≤ 64) (q : Q (.bl (f true)) h) : dEq f (.tup xs) (.tup xs) h Q :=
  ⟨r.da, r.da, r.sh hk, r.sh hk, by show Q (.bl (f (PyData.eqv (pd (.tup xs)) (pd (.tup xs))))) h; rw [r.eqv]; exact q⟩
theorem same_lst (r : Fl (.lst xs) k) (hk : k ≤ 64) (q : Q (.bl (f true)) h) : dEq f (.lst xs) (.lst xs) h Q :=
  ⟨r.da, r.da, r.sh hk, r.sh hk, by show Q (.bl (f (PyData.eqv (pd (.lst xs)) (pd (.lst xs))))) h; rw [r.eqv]; exact q⟩
theorem fl_e : Fl (.lst []) 1 := fl_lst (k := 0) fun x hx => by cases hx
/-- a list, and the empty one -/
theorem nil_lst (r : Fl (.lst xs) k) (hk : k ≤ 64) (q : Q (.bl (f xs.isEmpty)) h) : dEq f (.lst xs) (.lst []) h Q := by
  refine ⟨r.da, rfl, r.sh hk, fl_e.sh (by decide), ?_⟩
  show Q (.bl (f (PyData.eqv (pd (.lst xs)) (pd (.lst []))))) h
  rw [pd, pd, PyData.eqv]
  cases xs with
  | nil => rw [pds, PyData.eqvAll]; exact q
  | cons x xs => rw [pds, pds, PyData.eqvAll]; exact q
end
end DL
namespace DL
open PySem PySem.Spec L2 C8
/-! ### attributes -/
def insOf (h : AH) : D → Option (Addr × List (Str × D))
  | .ob C fs => some (C, fs)
  | .ref a => match h a with
    | some (.ins C fs) => some (C, fs)
    | _ => none
  | _ => none
def putFD (f : Str) (d : D) : List (Str × D) → List (Str × D)
  | [] => [(f, d)]
  | (g, x) :: r => if g = f then (g, d) :: r else (g, x) :: putFD f d r
section
variable {K : PySem.W.Frag} {F : Hp} {h : AH} {H : Hp}
theorem RepF.look : ∀ {fs : List (Str × D)} {vs : List (Str × V)} {f : Str} {d : D}, RepF K F fs vs → fs.lookup f = some d → ∃ v, vs.lookup f = some v ∧ Rep K F d v
  | _, _, f, d, .nil, e => by simp at e
  | _, _, f, d, @RepF.cons _ _ k x v xs vs r t, e => by
    cases c : f == k with
    | true =>
      simp only [List.lookup_cons, c] at e ⊢
      cases e
      exact ⟨v, rfl, r⟩
    | false =>
      simp only [List.lookup_cons, c] at e ⊢
      exact RepF.look t e
theorem RepF.put {f : Str} {d : D} {v : V} (r : Rep K F d v) : ∀ {fs : List (Str × D)} {vs : List (Str × V)}, RepF K F fs vs → RepF K F (putFD f d fs) (putF f v vs)
  | _, _, .nil => .cons r .nil
  | _, _, @RepF.cons _ _ k x u xs us q t => by
    show RepF K F (if k = f then (k, d) :: xs else (k, x) :: putFD f d xs) (if k = f then (k, v) :: us else (k, u) :: putF f v us)
    by_cases c : k = f
    · rw [if_pos c, if_pos c]; exact .cons r t
    · rw [if_neg c, if_neg c]; exact .cons q (RepF.put r t)
theorem RepF.length : ∀ {fs : List (Str × D)} {vs : List (Str × V)}, RepF K F fs vs → fs.length = vs.length
  | _, _, .nil => rfl
  | _, _, .cons _ t => by simp [RepF.length t]
theorem Sim.insOf {d : D} {v : V} {C : Addr} {fs : List (Str × D)} (S : Sim K F h H) (r : Rep K F d v) (e : DL.insOf h d = some (C, fs)) : ∃ a dx vs, v = .ref a ∧ H a = some (.ins C dx vs) ∧ RepF K F fs vs := by
  cases r with
  | ref a =>
    cases q : h a with
    | none => simp [DL.insOf, q] at e
    | some o =>
      cases o with
      | ins C' gs =>
        simp only [DL.insOf, q, Option.some.injEq, Prod.mk.injEq] at e
        obtain ⟨rfl, rfl⟩ := e
        obtain ⟨_, u, hu, dx, vs, rfl, rs⟩ := S.ob _ _ q
        exact ⟨a, dx, vs, rfl, hu, rs⟩
      | _ => simp [DL.insOf, q] at e
  | @ob a C' dx xs vs hf rs =>
    simp only [DL.insOf, Option.some.injEq, Prod.mk.injEq] at e
    obtain ⟨rfl, rfl⟩ := e
    exact ⟨a, dx, vs, rfl, S.fz _ _ hf, rs⟩
  | _ => simp [DL.insOf] at e
end
section
variable {X : Cx} {E : XK} {gz : Bool} {k : Nat} {o value e : Expr} {es : List Expr} {wo wv : WE} {wl : WA} {pos pos' p : Pos} {f x : Str} {C : Addr}
/-- e.f of an instance of C -/
def wFld (C : Addr) (f : Str) (wo : WE) : WE := fun ρ h Q X => wo ρ h (fun x h1 => ∃ fs d, insOf h1 x = some (C, fs) ∧ fs.lookup f = some d ∧ Q d h1) X
theorem ae_fld (c : Cls X.K C) (n : NoAttr X.K C f) (ho : AE X E o wo) (hb : attributeBase o f X.env (eval o X.env) = eval o X.env := by rfl) : AE X E (.Attribute o f pos) (wFld C f wo) := by
  refine ⟨PE.imp (pe_fld ho.run hb) fun σ H Q ⟨F, ρ, h, S, R, q⟩ => ?_, fun ρ h Q Q' X X' hq hx q => ho.mo _ _ _ _ _ _ (fun x h1 ⟨fs, d, e1, e2, z⟩ => ⟨fs, d, e1, e2, hq _ _ z⟩) hx q⟩
  refine ⟨F, ρ, h, S, R, ho.mo _ _ _ _ _ _ (fun x h1 z => ?_) (fun _ _ z => z) q⟩
  intro F1 H1 v e1 S1 r
  obtain ⟨fs, d, ei, el, z⟩ := z
  obtain ⟨a, dx, vs, rfl, ha, rs⟩ := S1.insOf r ei
  obtain ⟨w, hw, rw'⟩ := rs.look el
  exact ⟨a, C, dx, vs, w, rfl, ha, c, n, hw, z F1 H1 w e1 S1 rw'⟩
/-- o.f = value -/
def wSetF (C : Addr) (f : Str) (wo wv : WE) : WS := fun D ρ h => wv ρ h (fun z h1 => wo ρ h1 (fun x h2 => ∃ a fs, x = .ref a ∧ h2 a = some (.ins C fs) ∧ fs.length < 1000 ∧ D.nx ρ (up h2 a (.ins C (putFD f z fs)))) D.ex) D.ex
theorem as_fld (c : Cls X.K C) (n : NoAttr X.K C f) (ho : AE X E o wo) (hv : AE X E value wv) (hs : swapsWith value (some (.Attribute o f pos')) pos.line X.env = pure false := by rfl) : AS X E (.Assign [.Attribute o f pos'] value pos) (wSetF C f wo wv) := by
  refine ⟨PS.imp (ps_fld ho.run hv.run hs) fun D σ H ⟨F, ρ, h, S, R, q⟩ => ?_, fun D D' ρ h l q => hv.mo _ _ _ _ _ _ (fun z h1 q => ho.mo _ _ _ _ _ _ (fun x h2 ⟨a, fs, e1, e2, e3, q⟩ => ⟨a, fs, e1, e2, e3, l.nx _ _ q⟩) l.ex q) l.ex q⟩
  refine ⟨F, ρ, h, S, R, hv.mo _ _ _ _ _ _ (fun z h1 q => ?_) (fun _ _ z => z) q⟩
  intro F1 H1 vz e1 S1 rz
  refine ⟨F1, ρ, h1, S1, R.ext e1, ho.mo _ _ _ _ _ _ (fun x h2 q => ?_) (fun _ _ z => LX.ext e1 z) q⟩
  intro F2 H2 vx e2 S2 rx
  obtain ⟨a, fs, rfl, ea, l, q⟩ := q
  cases rx
  obtain ⟨_, u, hu, dx, vs, rfl, rs⟩ := S2.ob _ _ ea
  exact ⟨a, C, dx, vs, rfl, hu, c, n, by rw [← rs.length]; exact l, q F2 _ σ (e1.trans e2) (S2.put ea (o := .ins C (putFD f z fs)) ⟨dx, _, rfl, rs.put (rz.ext e2)⟩) (R.ext (e1.trans e2))⟩
/-- C(e, ..): made, then taken as what does not change -/
def wMake (C : Addr) (S : FSpec) (wl : WA) : WE := fun ρ h Q X => wl ρ h (fun ds h1 => ∀ a, h1 a = none → S (.ref a :: ds) (up h1 a (.ins C [])) (fun v h2 => v = .non ∧ ∃ fs, h2 a = some (.ins C fs) ∧ Q (.ob C fs) (rm h2 a)) X) X
theorem make_to {K : PySem.W.Frag} {S : FSpec} (mo : MoF S) {F : Hp} {h : AH} {H : Hp} {ds : List D} {vs : List V} {Q : VK} {E : XK} (S0 : Sim K F h H) (r : Reps K F ds vs)
    (q : ∀ a, h a = none → S (.ref a :: ds) (up h a (.ins C [])) (fun v h2 => v = .non ∧ ∃ fs, h2 a = some (.ins C fs) ∧ LQ K F Q (.ob C fs) (rm h2 a)) (LX K F E)) :
    ∀ x dx, H x = none → H dx = none → dx ≠ x → spD K S (V.ref x :: vs) (upd (upd H dx (.own x)) x (.ins C dx [])) (fun v H2 => v = .non ∧ Q (.ref x) H2) E := by
  intro x dx hx hd ne
  have S1 := S0.newF hd (.own x)
  have e1 := ext_upd (o := HO.own x) (S0.free hd).1
  have hx1 : (upd H dx (.own x)) x = none := by rw [upd_ne ne.symm]; exact hx
  have S2 := S1.newM hx1 (o := .ins C []) (u := .ins C dx []) ⟨dx, [], rfl, .nil⟩
  refine ⟨_, .ref x :: ds, _, S2, .cons (.ref x) (r.ext e1), mo _ _ _ _ _ _ (fun v h2 z => ?_) (fun _ _ z => LX.ext e1 z) (q x (S0.free hx).2)⟩
  obtain ⟨rfl, fs, ef, z⟩ := z
  intro F3 H3 w e3 S3 rw'
  cases rw'
  refine ⟨rfl, ?_⟩
  obtain ⟨_, u, hu, dy, us, rfl, rs⟩ := S3.ob _ _ ef
  obtain ⟨e4, S4⟩ := S3.frz ef hu rm_same rm_sub
  exact z _ _ _ (e1.trans (e3.trans e4)) S4 (.ob upd_same (rs.ext e4))
/-- what a positional call of a def promises -/
abbrev FnRD (P : Program) (w : World) (K : PySem.W.Frag) (mg : Str → Option Value) (base : Heap) (k : Nat) (f : Addr) (S : FSpec) : Prop := FnR P w K mg base (L2.CX P w) k f fun vs H Q E => spD K S vs H Q E
end
end DL
namespace DL
open PySem PySem.Spec L2 C8
section
variable {P : Program} {w : World} {K : PySem.W.Frag} {mg : Str → Option Value} {base : Heap} {k : Nat} {f : Addr} {fd : FuncData} {ps : List Str} {S : FSpec}
/-- a def called with all its parameters by place -/
theorem frd_plain (G : FnG false P w K mg base k f fd ps S) (B : Bnd K fd ps ps.length [] (fun ds _ => ds)) : FnRD P w K mg base k f S := by
  intro A outer s H us vs Q E hr e0 r hs
  obtain ⟨F, ds, g, S0, r0, q⟩ := hs
  have X : K.In s.heap := e0.mod.kin.keeps fun b o e => (e0.bs b o e).1
  obtain ⟨xs, ts, rx, rt, bt⟩ := B.to s F ds [] vs [] us [] X (G.len _ _ _ _ q) rfl r0 r .nil .nil
  exact G.run hr (fun z => Bool.noConfusion z) e0 bt rt ⟨F, ds, g, S0, rx, q⟩
theorem FnRD.mono {j : Nat} (G : FnRD P w K mg base j f S) (h : j ≤ k) : FnRD P w K mg base k f S := fun A outer s H us vs Q E hr => G A outer s H us vs Q E (hr.mono h)
/-- what a def with n parameters and a starred one promises by place -/
def starS (n : Nat) (S : FSpec) : FSpec := fun ds h Q X => n ≤ ds.length ∧ (ds.drop n).length ≤ sizeLine ∧ S (ds.take n ++ [.tup (ds.drop n)]) h Q X
theorem starS_mo {n : Nat} (mo : MoF S) : MoF (starS n S) := fun _ _ _ _ _ _ hq hx ⟨a, b, q⟩ => ⟨a, b, mo _ _ _ _ _ _ hq hx q⟩
theorem frd_star {x qual : Str} {st : Stmt} {N : List Str} {pv : Str} {W : WS} (Fn : L2.Fun K x qual st f fd) (sc : FnScope N (ps ++ [pv]) (defScope st)) (len : ∀ ds h Q X, S ds h Q X → ds.length = (ps ++ [pv]).length) (mo : MoF S)
    (hb : ∀ (kV doc pm : Value) (an : Option Addr) (cdv ct : Value) (us rest : List Value), us.length = ps.length → bindArgs (PySem.W.fnOf x qual (defArgs st) (defBody st) (defScope st) .none kV doc pm an cdv ct) ⟨us ++ rest, []⟩ = (newTuple rest >>= fun t => pure (ps.zip us ++ [(pv, t)])))
    (body : ∀ (cdv : Value) (A : Around) (outer : List PySem.Env) (s : Shared) (H : Hp) (E : XK), Cg false (cxOf (L2.CX P w) P w K mg base N qual (defScope st) f cdv A outer s H E) E k →
      ASs (cxOf (L2.CX P w) P w K mg base N qual (defScope st) f cdv A outer s H E) E (defBody st) W)
    (pure : ∀ ds h Q X, S ds h Q X → W (endsD Q X) (startD N.length ds) h) : FnRD P w K mg base (k + 1) f (starS ps.length S) := by
  obtain ⟨oc, od, kV, doc, pm, an, cdv, ct, osl, rfl, lk, hcd⟩ := Fn.ex
  have R := StX.fn_star (P := P) (w := w) (mg := mg) (base := base) (k := k) (sp := fun vs H Q E => spD K S vs H Q E) lk hcd sc StX.cxUp (hb kV doc pm an cdv ct) (fun A outer s H vs Q E hr hs => by
    have c : Cg false (cxOf (L2.CX P w) P w K mg base N qual (defScope st) f cdv A outer s H E) E k :=
      ⟨hr, fun z => Bool.noConfusion z, rfl, sc.nd, passes_call (takes_of rfl rfl rfl rfl) fun _ _ _ _ z => z, passes_of rfl⟩
    obtain ⟨F0, ds, g, S0, r0, q0⟩ := hs
    have B := body cdv A outer s H E c
    refine ⟨_, B.run, F0, _, g, S0, start_env r0, B.mo (endsD (LQ K F0 Q) (LX K F0 E)) _ _ _ ⟨fun ρ h z => ?_, fun d h z => LQ.fin z, fun _ _ z => False.elim z, fun _ _ z => False.elim z, fun _ _ z => z⟩ (pure ds g _ _ q0)⟩
    exact fun F' H' σ' e S' _ => LQ.fin z F' H' .non e S' .non)
  refine R.imp fun vs H Q E hs => ?_
  obtain ⟨F, ds, g, S0, r0, l1, l2, q⟩ := hs
  refine ⟨vs.take ps.length, vs.drop ps.length, (List.take_append_drop _ _).symm, by rw [List.length_take, ← r0.length]; omega, by rw [← (r0.drop ps.length).length]; exact l2, fun p hp => ?_⟩
  have x1 := ext_upd (o := HO.tup (vs.drop ps.length)) (S0.free hp).1
  exact ⟨_, _, g, S0.newF hp _, ((r0.take ps.length).ext x1).append (.cons (.tup (.of upd_same) ((r0.drop ps.length).ext x1)) .nil), mo _ _ _ _ _ _ (fun _ _ z => LQ.ext x1 z) (fun _ _ z => LX.ext x1 z) q⟩
end
section
variable {X : Cx} {E : XK} {gz : Bool} {k j : Nat} {o value e fe : Expr} {es : List Expr} {wo wv we : WE} {wl : WA} {pos pos' p sp_ : Pos} {f x m : Str} {C fI g : Addr} {S : FSpec}
/-- C(*e) -/
def wMakeS (C : Addr) (S : FSpec) (we : WE) : WE := fun ρ h Q X => we ρ h (fun y h1 => ∃ ds, seqOf h1 y = some ds ∧ ∀ a, h1 a = none → S (.ref a :: ds) (up h1 a (.ins C [])) (fun v h2 => v = .non ∧ ∃ fs, h2 a = some (.ins C fs) ∧ Q (.ob C fs) (rm h2 a)) X) X
theorem ae_makeS (c : Cg gz X E k) (M : Mk X.K C fI) (G : FnRD X.prog X.w X.K X.mg X.base j fI S) (mo : MoF S) (hj : j + 1 ≤ k) (hm : X.mg x = some (.ref C)) (he : AE X E e we)
    (hg : Gl X x := by rfl) (hdb : (x == ("__debug__" : Str)) = false := by decide) (hst : starEach [.Starred e sp_] X.env = [(true, eval e X.env)] := by rfl) : AE X E (.Call (.Name x p) [.Starred e sp_] [] pos) (wMakeS C S we) := by
  refine ⟨⟨fun pins s σ H Q I hq => ?_⟩, fun ρ h Q Q' X X' hq hx q => he.mo _ _ _ _ _ _ (fun y h1 ⟨ds, e0, z⟩ => ⟨ds, e0, fun a hz => mo _ _ _ _ _ _ (fun v h2 ⟨e1, fs, e2, z⟩ => ⟨e1, fs, e2, hq _ _ z⟩) hx (z a hz)⟩) hx q⟩
  obtain ⟨F, ρ, h, S0, R, q⟩ := hq
  refine wpAny_Call_Name_kw (ld_glob I hg hm ?_ hdb)
  refine PySem.W.callWith_S (h₀ := X.base) I.ok.mod.kin M.kp (thn (he.run.run pins s σ H (fun y H1 => ∃ a xs, y = V.ref a ∧ (SqT X.K H1 a xs ∨ SqL X.K H1 a xs) ∧ ∀ x dx, H1 x = none → H1 dx = none → dx ≠ x → spD X.K S (V.ref x :: xs) (upd (upd H1 dx (.own x)) x (.ins C dx [])) (fun v H2 => v = .non ∧ Q (.ref x) H2) E) I
    ⟨F, ρ, h, S0, R, he.mo _ _ _ _ _ _ (fun y h1 z F1 H1 v e1 S1 r => ?_) (fun _ _ z => z) q⟩) fun v s1 ⟨y, H1, I1, ry, a, xs, ey, hxs, q1⟩ => ?_) hst
  · obtain ⟨ds, e0, z⟩ := z
    obtain ⟨a, vs, rfl, hs, rs⟩ := S1.seqOf r e0
    exact ⟨a, vs, rfl, hs.symm, make_to mo S1 rs fun a ha => mo _ _ _ _ _ _ (fun v h2 ⟨z1, fs, z2, z⟩ => ⟨z1, fs, z2, LQ.ext e1 z⟩) (fun _ _ z => LX.ext e1 z) (z a ha)⟩
  · subst ey
    obtain rfl : v = Value.ref a := ry
    exact StX.star_any I1 hxs fun us s2 I2 rv => ⟨I2.kIn, StX.run_makeR M G (c.room.mono hj) c.ps I2 rv q1⟩
/-- f(e, ..), f an instance of C -/
def wCallO (C : Addr) (S : FSpec) (wo : WE) (wl : WA) : WE := fun ρ h Q X => wo ρ h (fun y h1 => wl ρ h1 (fun ds h2 => (∃ fs, insOf h2 y = some (C, fs)) ∧ S (y :: ds) h2 Q X) X) X
end
end DL
namespace DL
open PySem PySem.Spec L2 C8
section
variable {P : Program} {w : World} {K : PySem.W.Frag} {mg : Str → Option Value} {base : Heap} {k : Nat} {f : Addr} {fd : FuncData} {ps : List Str} {S : FSpec}
theorem FnG.ok (G : FnG false P w K mg base k f fd ps S) : FnOk P w K mg base (L2.CX P w) k f fd ps (fun vs H Q E => spD K S vs H Q E) :=
  ⟨fun vs H Q E h => spD_len G.len h, fun A outer s H args us vs Q E hr e0 hb hv hs => G.run hr (fun z => Bool.noConfusion z) e0 hb hv hs⟩
end
section
variable {X : Cx} {E : XK} {gz : Bool} {k j : Nat} {o value e fe : Expr} {es : List Expr} {wo wv we : WE} {wl : WA} {pos pos' apos p sp_ : Pos} {f x m : Str} {C fI g pa : Addr} {S : FSpec} {fd : FuncData} {ps : List Str}
def isI (C : Addr) (x : D) (h : AH) : Prop := ∃ fs, insOf h x = some (C, fs)
/-- e.f, a property of C -/
def wProp (C : Addr) (S : FSpec) (wo : WE) : WE := fun ρ h Q X => wo ρ h (fun x h1 => isI C x h1 ∧ S [x] h1 Q (fun _ _ => False)) X
theorem ae_prop (c : Cg gz X E k) (cc : Cls X.K C) (hp : PropOf X.K C f pa g) (G : FnG false X.prog X.w X.K X.mg X.base j g fd ps S) (hb : Binds X.K fd ps []) (hj : j + 1 ≤ k) (ho : AE X E o wo)
    (hab : attributeBase o f X.env (eval o X.env) = eval o X.env := by rfl) : AE X E (.Attribute o f pos) (wProp C S wo) := by
  have hx : Passes (L2.CX X.prog X.w) X.nox L2.E0 := passL
  refine ⟨PE.imp (pe_prop ho.run cc hp G.ok (c.room.mono hj) hb .nil hx hab) fun σ H Q ⟨F, ρ, h, S0, R, q⟩ => ?_, fun ρ h Q Q' X X' hq hx q => ho.mo _ _ _ _ _ _ (fun x h1 z => ⟨z.1, G.mo _ _ _ _ _ _ hq (fun _ _ z => z) z.2⟩) hx q⟩
  refine ⟨F, ρ, h, S0, R, ho.mo _ _ _ _ _ _ (fun x h1 z => ?_) (fun _ _ z => z) q⟩
  intro F1 H1 v e1 S1 r
  obtain ⟨⟨fs, ei⟩, z⟩ := z
  obtain ⟨a, dx, vs, rfl, ha, _⟩ := S1.insOf r ei
  exact ⟨a, dx, vs, rfl, ha, F1, _, h1, S1, .cons r .nil, G.mo _ _ _ _ _ _ (fun _ _ z => LQ.ext e1 z) (fun _ _ z => z.elim) z⟩
/-- o.m(e, ..) -/
def wMet (C : Addr) (m : Str) (S : FSpec) (wo : WE) (wl : WA) : WE := fun ρ h Q X => wo ρ h (fun x h1 => ∃ fs, insOf h1 x = some (C, fs) ∧ fs.lookup m = none ∧ wl ρ h1 (fun ds h2 => S (x :: ds) h2 Q X) X) X
theorem RepF.no {K : PySem.W.Frag} {F : Hp} {f : Str} : ∀ {fs : List (Str × D)} {vs : List (Str × V)}, RepF K F fs vs → fs.lookup f = none → vs.lookup f = none
  | _, _, .nil, _ => rfl
  | _, _, @RepF.cons _ _ k x v xs vs r t, e => by
    cases c : f == k with
    | true => simp only [List.lookup_cons, c] at e; cases e
    | false =>
      simp only [List.lookup_cons, c] at e ⊢
      exact RepF.no t e
end
end DL
namespace DL
open PySem PySem.Spec L2 C8
section
variable {X : Cx} {E : XK} {gz : Bool} {k j : Nat} {a b o e : Expr} {wa wb wo wi : WE} {pos apos : Pos} {m : Str} {C g : Addr} {S : FSpec} {op : Operator}
theorem pass_no : Passes (L2.CX X.prog X.w) X L2.E0 := fun _ _ _ _ _ _ _ h => by
  obtain ⟨_, _, _, _, _, _, _, _, _, _, _, _, h⟩ := h
  exact False.elim h
theorem ins_at {pins : List (Addr × Obj)} {σ : L2.St} {H : Hp} {s : Shared} {q dx : Addr} {fs : List (Str × V)} (I : Inv X pins σ H s) (h : H q = some (.ins C dx fs)) : ∃ ox od, PySem.W.InstAt s.heap q ox C od := by
  obtain ⟨mA, O, _⟩ := ins_get I.hok h
  obtain ⟨od, J, _⟩ := O.look
  exact ⟨_, _, J⟩
/-- x[i], x an instance of C whose def is at g -/
def rIxOwn (C : Addr) (sp : Sp) : R2 := fun x y H Q => ∃ a dx fs, x = .ref a ∧ H a = some (.ins C dx fs) ∧ sp [x, y] H Q L2.E0
theorem pe_ixOwn {ta tb : TE} (at_ : PySem.W.findIn X.K (.ref C) "__getitem__" = some (some (.ref g))) (fi : PySem.W.fnIn X.K g = true) (fn : PySem.W.isFn X.K (.ref g) = true) (G : FnRD X.prog X.w X.K X.mg X.base j g S) (hr : Room j X.A.in1)
    (ha : PE X a ta) (hb : PE X b tb) (hs : ∀ v u, subscripted b true v u = runValue (.builtin "lifetime.subscript" ⟨[v, u], []⟩)) : PE X (.Subscript a b pos) (tOp (rIxOwn C fun vs H Q E => spD X.K S vs H Q E) ta tb) := by
  refine ⟨fun pins s σ H Q I h => PyProof.Rows.Subscript_ (binT ha hb I h fun v u s2 x y H2 I2 rx ry q => ?_)⟩
  obtain ⟨p, dx, fs, rfl, hp, z⟩ := q
  cases (show v = Value.ref p from rx)
  obtain ⟨ox, od, J⟩ := ins_at I2 hp
  obtain ⟨mm, hF⟩ := I2.fr
  exact PySem.W.sub_K hF I2.ok.mod.kin J at_ fi fn (wpAny_call (SlX.run_at (us := [.ref p, u]) (ws := [.ref p, y]) G hr I2.env0.in1 pass_no I2 (.cons rfl (.cons ry .nil)) z)) (hs _ _)
def dIxOwn (C : Addr) (S : FSpec) (x y : D) (h : AH) (Q : KD) : Prop := isI C x h ∧ S [x, y] h Q (fun _ _ => False)
theorem dIxOwn_ok {K : PySem.W.Frag} (mo : MoF S) : OpD K (rIxOwn C fun vs H Q E => spD K S vs H Q E) (dIxOwn C S) where
  to := by
    rintro F h H x y vx vy Q S0 rx ry ⟨⟨fs, ex⟩, q⟩
    obtain ⟨p, dx, us, rfl, hp, _⟩ := S0.insOf rx ex
    exact ⟨p, dx, us, rfl, hp, F, _, h, S0, .cons rx (.cons ry .nil), mo _ _ _ _ _ _ (fun _ _ z => z) (fun _ _ z => z.elim) q⟩
  mo := fun hq ⟨a, q⟩ => ⟨a, mo _ _ _ _ _ _ hq (fun _ _ z => z) q⟩
theorem ae_ixOwn (c : Cg gz X E k) (at_ : PySem.W.findIn X.K (.ref C) "__getitem__" = some (some (.ref g))) (fi : PySem.W.fnIn X.K g = true) (fn : PySem.W.isFn X.K (.ref g) = true) (G : FnRD X.prog X.w X.K X.mg X.base j g S) (mo : MoF S) (hj : j + 1 ≤ k)
    (ha : AE X E a wa) (hb : AE X E b wb) (hs : ∀ v u, subscripted b true v u = runValue (.builtin "lifetime.subscript" ⟨[v, u], []⟩) := by intro _ _; rfl) : AE X E (.Subscript a b pos) (wOp (dIxOwn C S) wa wb) :=
  ⟨PE.imp (pe_ixOwn at_ fi fn G (Room.in1 (c.room.mono hj)) ha.run hb.run hs) fun σ H Q h => two (dIxOwn_ok mo) ha hb h, mo_op (dIxOwn_ok (K := X.K) mo).mo ha.mo hb.mo⟩
end
end DL
namespace DL
open PySem PySem.Spec L2 C8
section
variable {X : Cx} {E : XK} {gz : Bool} {k : Nat} {a b e o : Expr} {rest : List Expr} {wa wb wo : WE} {pos apos cpos p : Pos} {m : Str} {C g : Addr} {S : FSpec} {j : Nat}
/-- a or b, a of any truth -/
def wOrT (wa wb : WE) : WE := fun ρ h Q X => wa ρ h (fun x h1 => ∃ k, truD h1 x = some k ∧ if k = true then Q x h1 else wb ρ h1 Q X) X
theorem ae_orT (ha : AE X E a wa) (hb : AE X E (.BoolOp .Or (b :: rest) pos) wb) : AE X E (.BoolOp .Or (a :: b :: rest) pos) (wOrT wa wb) := by
  refine ⟨PE.imp (pe_orT ha.run hb.run) fun σ H Q ⟨F, ρ, h, S0, R, q⟩ => ?_, fun ρ h Q Q' X X' hq hx q => ha.mo _ _ _ _ _ _ (fun x h1 ⟨k, e1, z⟩ => ⟨k, e1, ?_⟩) hx q⟩
  · refine ⟨F, ρ, h, S0, R, ha.mo _ _ _ _ _ _ (fun x h1 z => ?_) (fun _ _ z => z) q⟩
    intro F1 H1 v e1 S1 r
    obtain ⟨k, ek, z⟩ := z
    refine ⟨k, S1.truD r ek, ?_⟩
    split at z
    · rename_i c; rw [if_pos c]; exact z F1 H1 v e1 S1 r
    · rename_i c; rw [if_neg c]; exact ⟨F1, ρ, h1, S1, R.ext e1, hb.mo _ _ _ _ _ _ (fun _ _ z => LQ.ext e1 z) (fun _ _ z => LX.ext e1 z) z⟩
  · split at z
    · rename_i c; rw [if_pos c]; exact hq _ _ z
    · rename_i c; rw [if_neg c]; exact hb.mo _ _ _ _ _ _ hq hx z
end
end DL
namespace DL
open PySem PySem.Spec L2 C8
/-! ### dict comprehensions -/
def dcD (st : AH → Prop) (g : WG) (tt : WT) (tk tv : WE) (vs : List Nat) (ρ : EnvD) (p : Addr) : List D → AH → (AH → Prop) → Prop
  | [], h, Q => st h ∧ Q h
  | x :: r, h, Q => st h ∧ g x (wipeD ρ vs) h (fun ρ2 h2 => tt ρ2 h2 (fun b h3 => if b = true then tk ρ2 h3 (fun y h4 => tv ρ2 h4 (fun z h5 => ∃ kvs k, keyD y = some k ∧ h5 p = some (.dK kvs) ∧ kvs.length < sizeLine ∧ dcD st g tt tk tv vs ρ p r (up h5 p (.dK (putD kvs k z))) Q) (fun _ _ => False)) (fun _ _ => False)
      else dcD st g tt tk tv vs ρ p r h3 Q) (fun _ _ => False)) (fun _ _ => False)
def endK (m : Bool) (p : Addr) (Q : KD) : AH → Prop := fun h => ∃ kvs, h p = some (.dK kvs) ∧ if m = true then Q (.ref p) h else Q (.dK kvs) (rm h p)
def wDc (m : Bool) (wi : WI) (g : WG) (tt : WT) (tk tv : WE) (vs : List Nat) : WE := fun ρ h Q X => wi ρ h (fun xs st h1 => ∀ p, h1 p = none → dcD st g tt tk tv vs ρ p xs (up h1 p (.dK [])) (endK m p Q)) X
theorem dcD_mo {st : AH → Prop} {g : WG} {tt : WT} {tk tv : WE} {vs : List Nat} {ρ : EnvD} {p : Addr} (mg : MoG g) (mt : MoT tt) (mk : MoE tk) (mv : MoE tv) {Q Q' : AH → Prop} (hq : ∀ h, Q h → Q' h) : ∀ (xs : List D) (h : AH), dcD st g tt tk tv vs ρ p xs h Q → dcD st g tt tk tv vs ρ p xs h Q'
  | [], h, q => ⟨q.1, hq _ q.2⟩
  | x :: r, h, q => ⟨q.1, mg _ _ _ _ _ _ _ (fun ρ2 h2 z => mt _ _ _ _ _ _ (fun b h3 z => by
      split at z
      · rename_i c; rw [if_pos c]
        exact mk _ _ _ _ _ _ (fun y h4 z => mv _ _ _ _ _ _ (fun w h5 ⟨kvs, k, e1, e2, l, z⟩ => ⟨kvs, k, e1, e2, l, dcD_mo mg mt mk mv hq r _ z⟩) (fun _ _ z => z) z) (fun _ _ z => z) z
      · rename_i c; rw [if_neg c]; exact dcD_mo mg mt mk mv hq r _ z) (fun _ _ z => z) z) (fun _ _ z => z) q.2⟩
theorem endK_mo {m : Bool} {p : Addr} {Q Q' : KD} (hq : ∀ d h, Q d h → Q' d h) : ∀ h, endK m p Q h → endK m p Q' h := fun h ⟨acc, e, z⟩ => ⟨acc, e, by
  split at z
  · rename_i c; rw [if_pos c]; exact hq _ _ z
  · rename_i c; rw [if_neg c]; exact hq _ _ z⟩
theorem endK_to {K : PySem.W.Frag} {F : Hp} {h : AH} {H : Hp} {m : Bool} {p : Addr} {Q : VK} (S : Sim K F h H) (q : endK m p (LQ K F Q) h) : Q (.ref p) H := by
  obtain ⟨kvs, e, q⟩ := q
  split at q
  · exact q.at S (.ref p)
  · obtain ⟨f, u, hu, us, rfl, rs⟩ := S.ob _ _ e
    obtain ⟨e2, S2⟩ := S.frz e hu rm_same rm_sub
    exact q _ _ _ e2 S2 (.dK upd_same (rs.ext e2))
section
variable {X : Cx} {E : XK} {gz : Bool} {k : Nat} {kx vx tg iter : Expr} {ifs : List Expr} {scope : Scope} {own : List (Str × Nat)} {pos : Pos} {wi : WI} {g : WG} {gv : TG} {tt : WT} {tk tv : WE}
theorem wipe2 {σ : L2.St} (vs : List Nat) : L2.wipe (L2.wipe σ vs) vs = L2.wipe σ vs := by
  have key : ∀ (us vs : List Nat), (∀ u ∈ us, u ∈ vs) → L2.wipe (L2.wipe σ us) vs = L2.wipe σ vs := by
    intro us
    induction us with
    | nil => intro vs _; rfl
    | cons u us ih =>
      intro vs hu
      show L2.wipe ((L2.wipe σ us).set u none) vs = _
      rw [wipe_set (hu u (List.mem_cons_self ..)), ih vs fun w hw => hu w (List.mem_cons_of_mem _ hw)]
  exact key vs vs fun _ h => h
theorem to_dc {m : Bool} (mi : MoI wi) (mg : MoG g) (mt : MoT tt) (mk : MoE tk) (mv : MoE tv) (gw : GW X.K (own.map (·.2)) g gv) {σ : L2.St} {H : Hp} {Q : VK} (h : tE X.K E (wDc m wi g tt tk tv (own.map (·.2))) σ H Q) :
    tDc (tI X.K E wi) gv (tT X.K L2.E0 tt) (tE X.K L2.E0 tk) (tE X.K L2.E0 tv) (own.map (·.2)) σ H Q := by
  obtain ⟨F, ρ, h0, S, R, q⟩ := h
  refine ⟨F, ρ, h0, S, R, mi _ _ _ _ _ _ (fun xs st h1 z => ?_) (fun _ _ z => z) q⟩
  intro F1 H1 J e1 S1 it D hD
  obtain ⟨f1, g1⟩ := S1.free hD
  have z := z D g1
  refine ⟨fun i n H => n = xs.length - i ∧ i ≤ xs.length ∧ ∃ F2 h2, Ext F1 F2 ∧ Sim X.K F2 h2 H ∧ dcD st g tt tk tv (own.map (·.2)) ρ D (xs.drop i) h2 (endK m D (LQ X.K F2 Q)),
    ⟨xs.length, by simp, Nat.zero_le _, F1, _, .refl _, S1.newM hD (o := .dK []) ⟨[], rfl, .nil⟩, dcD_mo mg mt mk mv (endK_mo fun _ _ z => LQ.ext e1 z) _ _ (by simpa using z)⟩, ?_⟩
  rintro i n H2 ⟨rfl, hi, F2, h2, e2, S2, z2⟩
  by_cases lt : i < xs.length
  · rw [List.drop_eq_getElem_cons lt] at z2
    obtain ⟨hst, z2⟩ := z2
    refine .inr ⟨it.go e2 S2 hst lt, fun H' => ∃ F3 h3, Ext F1 F3 ∧ Sim X.K F3 h3 H' ∧ dcD st g tt tk tv (own.map (·.2)) ρ D (xs.drop (i + 1)) h3 (endK m D (LQ X.K F3 Q)), fun H' p => ⟨xs.length - (i + 1), by omega, rfl, lt, p⟩, fun x H' y => ?_⟩
    obtain ⟨F3, e3, S3, r3⟩ := it.yld e2 S2 hst y (List.getElem?_eq_getElem lt)
    have R3 := (R.ext (e1.trans (e2.trans e3))).wipe (own.map (·.2))
    refine gw.to S3 r3 R3 z2 fun ρ4 σ4 R4 z4 ew => ⟨by rw [ew, wipe2], F3, ρ4, h2, S3, R4, mt _ _ _ _ _ _ (fun b h5 z5 => ?_) (fun _ _ z => z.elim) z4⟩
    intro F5 H5 e5 S5
    split at z5
    · rename_i cb
      rw [if_pos cb]
      refine ⟨F5, ρ4, h5, S5, R4.ext e5, mk _ _ _ _ _ _ (fun y h6 z6 => ?_) (fun _ _ z => z.elim) z5⟩
      intro F6 H6 v6 e6 S6 r6
      refine ⟨F6, ρ4, h6, S6, (R4.ext e5).ext e6, mv _ _ _ _ _ _ (fun w h7 z7 => ?_) (fun _ _ z => z.elim) z6⟩
      intro F7 H7 v7 e7 S7 r7
      obtain ⟨kvs, kk, ek, ea, la, z7⟩ := z7
      obtain ⟨fa, u, hu, us, rfl, rs⟩ := S7.ob _ _ ea
      have eall := e3.trans (e5.trans (e6.trans e7))
      exact ⟨us, kk, keyD_to r6 ek, hu, by rw [← rs.length]; exact la, F7, _, e2.trans eall, S7.put ea (o := .dK (putD kvs kk w)) ⟨_, rfl, rs.put kk r7⟩, dcD_mo mg mt mk mv (endK_mo fun _ _ z => LQ.ext eall z) _ _ z7⟩
    · rename_i cb
      rw [if_neg cb]
      exact ⟨F5, _, e2.trans (e3.trans e5), S5, dcD_mo mg mt mk mv (endK_mo fun _ _ z => LQ.ext (e3.trans e5) z) _ _ z5⟩
  · have e : i = xs.length := by omega
    subst e
    rw [List.drop_length] at z2
    exact .inl ⟨it.stop e2 S2 z2.1 rfl, endK_to S2 z2.2⟩
theorem ae_dc (m : Bool) (c : Cg gz X E k) (hi : AI X E tg iter wi) (ok : BlkOk X.N X.env.scope scope own) (gw : GW X.K (own.map (·.2)) g gv)
    (hg : ∀ (s : Shared) (H : Hp) (C : Addr) (cl : List (Str × Addr)) (fp : List Addr), PG (Blk X scope s H C cl fp) tg gv)
    (ht : ∀ (s : Shared) (H : Hp) (C : Addr) (cl : List (Str × Addr)) (fp : List Addr), Cg gz (Blk X scope s H C cl fp) L2.E0 k → ATs (Blk X scope s H C cl fp) L2.E0 ifs tt)
    (hk : ∀ (s : Shared) (H : Hp) (C : Addr) (cl : List (Str × Addr)) (fp : List Addr), Cg gz (Blk X scope s H C cl fp) L2.E0 k → AE (Blk X scope s H C cl fp) L2.E0 kx tk)
    (he : ∀ (s : Shared) (H : Hp) (C : Addr) (cl : List (Str × Addr)) (fp : List Addr), Cg gz (Blk X scope s H C cl fp) L2.E0 k → AE (Blk X scope s H C cl fp) L2.E0 vx tv)
    (hs : ∀ x, foldedSetIterable iter X.env x = pure x := by intro _; rfl) : AE X E (.DictComp kx vx [⟨tg, iter, ifs, 0⟩] scope pos) (wDc m wi g tt tk tv (own.map (·.2))) := by
  have mg := gw.mo
  have mt := (ht X.s_0 X.H_0 0 [] [] (cg_blk c _ _ _ _ _)).mo
  have mk := (hk X.s_0 X.H_0 0 [] [] (cg_blk c _ _ _ _ _)).mo
  have mv := (he X.s_0 X.H_0 0 [] [] (cg_blk c _ _ _ _ _)).mo
  exact ⟨PE.imp (pe_dc (tt := tT X.K L2.E0 tt) (tk := tE X.K L2.E0 tk) (tv := tE X.K L2.E0 tv) c.calm c.nd hi.run ok hg (fun s H C cl fp => (ht s H C cl fp (cg_blk c s H C cl fp)).run) (fun s H C cl fp => (hk s H C cl fp (cg_blk c s H C cl fp)).run) (fun s H C cl fp => (he s H C cl fp (cg_blk c s H C cl fp)).run) hs) fun σ H Q h => to_dc hi.mo mg mt mk mv gw h,
    fun ρ h Q Q' X X' hq hx q => hi.mo _ _ _ _ _ _ (fun xs st h1 z p hp => dcD_mo mg mt mk mv (endK_mo hq) _ _ (z p hp)) hx q⟩
end
/-! ### x[::-1] of a list -/
theorem Reps.rev {K : PySem.W.Frag} {F : Hp} : ∀ {xs : List D} {vs : List V}, Reps K F xs vs → Reps K F xs.reverse vs.reverse
  | _, _, .nil => .nil
  | _, _, .cons r t => by rw [List.reverse_cons, List.reverse_cons]; exact (Reps.rev t).append (.cons r .nil)
def wRev (m : Bool) (wo : WE) : WE := fun ρ h Q X => wo ρ h (fun x h1 => ∃ xs, lstOf h1 x = some xs ∧ newL m xs.reverse h1 Q) X
theorem ae_rev (m : Bool) {X : Cx} {E : XK} {o : Expr} {wo : WE} {k : Nat} {p1 p2 p3 pos : Pos} (ho : AE X E o wo) : AE X E (.Subscript o (.Slice none none (some (.UnaryOp .USub (.Constant (.int 1) k p1) p2)) p3) pos) (wRev m wo) := by
  refine ⟨PE.imp (pe_revL ho.run) fun σ H Q ⟨F, ρ, h, S0, R, q⟩ => ?_, fun ρ h Q Q' X X' hq hx q => ho.mo _ _ _ _ _ _ (fun x h1 ⟨xs, e1, z⟩ => ⟨xs, e1, newL_mo hq z⟩) hx q⟩
  refine ⟨F, ρ, h, S0, R, ho.mo _ _ _ _ _ _ (fun x h1 z => ?_) (fun _ _ z => z) q⟩
  intro F1 H1 v e1 S1 r
  obtain ⟨xs, ex, z⟩ := z
  obtain ⟨a, vs, rfl, ha, rs⟩ := S1.lstOf r ex
  exact ⟨a, vs, rfl, .of ha, S1.newL rs.rev (newL_mo (fun _ _ z => LQ.ext e1 z) z)⟩
end DL
namespace DL
open PySem PySem.Spec L2 C8 PyProof.Rows
section
variable {prog : Program} {w : World} {A : Around} {E : Value → Shared → Prop} {s : Shared} {t : Addr} {its : List Value} {ns : List Int} {Q : Value → Shared → Prop}
theorem sum_tupR (hh : A.handled = none) (hl : s.heap.IsTuple t its.toArray) (hi : IntsAre its ns)
    (h : ∀ h' tk u, (∀ b o, s.heap.get? b = some o → h'.get? b = some o) → Q (.int ns.sum u) { s with heap := h', toks := tk }) : wpAny (model prog w) A (call (.builtin "sum") [.ref t]) Q E s := by
  obtain ⟨xs, e⟩ := hi.allInts.items
  have hn : numsOf (intItems xs).toList = ns := by rw [← e]; exact hi.numsOf
  rw [nums_intItems] at hn
  rw [e] at hl
  have lt : t < s.heap.objs.size := by obtain ⟨_, x, _⟩ := hl; exact Heap.lt_size x
  refine call_sum_walkG (wpAny_pyIter_tuple hl ?_)
  refine ⟨s.heap.objs.size, [s.heap.objs.size, t], [s.heap.objs.size], _, _, _, numAt xs, rfl, Walks.tuple (A := A.in1) hh _ t (Nat.ne_of_lt lt) (intItems xs), ⟨⟨_, Heap.get?_push_size _ rfl, rfl, rfl⟩, hl.push _⟩, fun b hb => ?_, (fun _ _ => intItems_at), fun h' tk u hk => ?_⟩
  · rw [Heap.size_push]
    rcases (by simpa using hb : b = s.heap.objs.size ∨ b = t) with z | z
    · rw [z]; exact Nat.lt_succ_self _
    · rw [z]; exact Nat.lt_succ_of_lt lt
  · have z := h h' tk u fun b o q => hk b o (by
      have : b ≠ s.heap.objs.size := Nat.ne_of_lt (Heap.lt_size q)
      simpa using this) (Heap.get?_push_of_some _ q)
    rw [← hn] at z
    rw [preSum_eq, List.take_of_length_le (by simp [intItems])]
    exact z
end
section
variable {X : Cx}
def rSumTD (K : PySem.W.Frag) : List V → Hp → VK → Prop := fun vs H Q => ∃ (a : Addr) (ns : List Int), vs = [V.ref a] ∧ SqT K H a (ns.map V.int) ∧ Q (.int ns.sum) H
theorem cr_sumT (hc : X.calm = true) : CallR X (.builtin "sum") (rSumTD X.K) := by
  intro pins s σ H vs us Q I r h
  obtain ⟨a, ns, rfl, hs, q⟩ := h
  obtain ⟨its, rv, hl, _⟩ := I.tuple hs
  rw [Vals.ref1 r]
  exact sum_tupR (I.ok.hd hc) hl rv.ints fun h' tk u hk => ⟨.int _, H, I.kept hk, ⟨_, rfl⟩, q⟩
def dSumT (ds : List D) (h : AH) (Q : KD) : Prop := ∃ ns : List Int, ds = [.tup (ns.map D.int)] ∧ Q (.int ns.sum) h
theorem dSumT_ok (hc : X.calm = true) : CaD X (.builtin "sum") dSumT where
  ex := by
    refine ⟨_, cr_sumT hc, ?_⟩
    rintro F h H ds vs Q S r ⟨ns, rfl, q⟩
    obtain ⟨v, rfl, rv⟩ := r.one
    cases rv with
    | @tup a _ us hs rs =>
      obtain rfl := rs.ints
      exact ⟨a, ns, rfl, sqt_of S.fz hs, q.at S (.int _)⟩
  mo := fun hq ⟨ns, e, q⟩ => ⟨ns, e, hq _ _ q⟩
end
end DL
namespace DL
open PySem PySem.Spec L2 C8 PyProof.Rows
section
variable {X : Cx}
/-- sorted(d), d with int keys, any number of them -/
theorem cr_sortedDK (hcalm : X.calm = true) : CallR X (.builtin "sorted") (fun xs H Q => ∃ (a : Addr) (kvs : List (Key × V)) (ks : List Int), xs = [.ref a] ∧ Rd H a (.dK kvs) ∧ kvs.map (·.1) = ks.map Sum.inl ∧
    ∀ (ys : List Int) (p : Addr), ys.Perm ks → ys.Pairwise (· ≤ ·) → H p = none → Q (.ref p) (upd H p (.lst (ys.map V.int)))) := by
  intro pins s σ H xs us Q I r q
  obtain ⟨a, kvs, ks, ex, hd, hks, q⟩ := q
  subst ex
  obtain ⟨u, eu, rx⟩ := vals1 r
  subst eu
  cases rx
  obtain ⟨z, lo, vs, rel, dd⟩ := dk_rd I.hok hd
  obtain ⟨ep, hat⟩ := dd.dictAt
  have hkeys : vs.map (·.1) = ks.map Sum.inl := rel.keys.symm.trans hks
  have hl : vs.length = ks.length := by
    have e := congrArg List.length hkeys
    rw [List.length_map, List.length_map] at e
    exact e
  have h16 : vs.length ≤ sizeLine := by rw [← Paired.length rel]; exact z
  refine Calls.call_function_entry PyProof.Rows.kind_sorted PyProof.Rows.plain_sorted PyProof.Rows.entry_sorted (PyProof.Rows.args_sorted1 _) ?_
  unfold Builtin.«sorted»
  refine wpAny_bind (m := checkCount "sorted" 1 1 _) (wpAny_pure ?_)
  refine wpAny_bind (PySem.W.kdu_collect (A := X.A.in1) (PySem.W.kdl_dict (knd := mixKind X.prog X.w) (kvs := vs) (ep := ep) lo) (I.ok.hd hcalm) hat h16 fun h' tk acc hk hacc => ?_)
  have hal : acc.toList.length = ks.length := by rw [Array.length_toList, hacc.1, hl]
  have hS : IntsAre acc.toList ks := ints_each hal fun j v e => by
    obtain ⟨k, x, e1, e2⟩ := hacc.2 j v (by rw [← Array.getElem?_toList]; exact e)
    have e3 : (vs.map (·.1))[j]? = some k := by rw [List.getElem?_map, e1]; rfl
    rw [hkeys, List.getElem?_map] at e3
    cases e4 : ks[j]? with
    | none => rw [e4] at e3; cases e3
    | some y =>
      rw [e4] at e3
      have e5 : Sum.inl y = k := Option.some.inj e3
      subst e5
      rcases keyIs_shape (show keyIs (Sum.inl y) v = true from e2) with ⟨i, t, ek, ev⟩ | ⟨z, t, ek, ev⟩
      · cases ek
        exact ⟨y, t, rfl, ev⟩
      · cases ek
  have I1 : Inv X pins σ H { s with heap := h', toks := tk } := I.kept hk
  have hz : acc.toList.length ≤ sizeLine := by rw [hal, ← hl]; exact h16
  refine wpAny_bind (wpAny_newList ?_ hz)
  have hoL : (h'.push (seqObj "list" acc.toList.toArray 0)).get? h'.objs.size = some (seqObj "list" acc.toList.toArray 0) := Heap.get?_push_size _ rfl
  show wpAny _ _ _ _ _ { s with heap := h'.push (seqObj "list" acc.toList.toArray 0), toks := tk }
  refine wpAny_bind (wpAny_holding (wpAny_call_entry PyProof.Rows.slot_list_sort ⟨_, hoL, rfl⟩ PyProof.Rows.entry_list_sort
    (SrtO.list_sort_ord (s := { s with heap := h'.push (seqObj "list" acc.toList.toArray 0), toks := tk }) SrtO.swo_int hoL hz (fun h2 => SrtO.ints_sortable hS h2) fun out g1 g2 => ⟨_, rfl, ?_⟩) (PyProof.Rows.args_list_sort _)))
  obtain ⟨k1, k2, k3⟩ := SrtO.ints_out hS g1 g2
  obtain ⟨e', he'⟩ := PyProof.Rows.sortedHeap_at (vs := acc.toList) (out := out.toArray) hoL
  have hlen : ((out.map SrtO.iv).map V.int).length ≤ sizeLine := by
    rw [List.length_map, k2.length_eq, ← hal]; exact hz
  refine wpAny_pure ⟨_, rfl, .ref h'.objs.size, upd H h'.objs.size (.lst ((out.map SrtO.iv).map V.int)), I1.laid (t' := tk) (fun b u e => ?_) (Nat.le_refl _)
    (show ObjOk X.prog X.w _ _ _ (.lst ((out.map SrtO.iv).map V.int)) from ⟨hlen, out, e', vals_of_ints k1, he'⟩), rfl, q _ _ k2 k3 (I1.hok.fresh (Nat.le_refl _))⟩
  have hb : b < h'.objs.size := Heap.lt_size e
  rw [PyProof.Rows.sortedHeap_old (Nat.ne_of_lt hb) (by rw [size_push']; exact Nat.lt_succ_of_lt hb)]
  exact Heap.get?_push_of_some _ e
end
/-- a key as data -/
def kD : Key → D
  | .inl i => .int i
  | .inr s => .str s
section
variable {K : PySem.W.Frag} {F : Hp} {h : AH} {H : Hp}
theorem kD_rep {F : Hp} (k : Key) : Rep K F (kD k) (kV k) := by
  cases k with
  | inl i => exact .int i
  | inr s => exact .str s
end
section
variable {X : Cx}
def dSortD (m : Bool) (ds : List D) (h : AH) (Q : KD) : Prop := ∃ (x : D) (kvs : List (Key × D)) (ks : List Int), ds = [x] ∧ dkOf h x = some kvs ∧ kvs.map (·.1) = ks.map Sum.inl ∧ ∀ ys : List Int, ys.Perm ks → ys.Pairwise (· ≤ ·) → newL m (ys.map D.int) h Q
theorem reps_intsD {K : PySem.W.Frag} {F : Hp} : ∀ ns : List Int, Reps K F (ns.map D.int) (ns.map V.int)
  | [] => .nil
  | n :: ns => .cons (.int n) (reps_intsD ns)
theorem dSortD_ok {m : Bool} (hc : X.calm = true) : CaD X (.builtin "sorted") (dSortD m) where
  ex := ⟨_, cr_sortedDK hc, fun {F h H ds vs Q} S r q => by
    obtain ⟨x, kvs, ks, rfl, e, hk, q⟩ := q
    obtain ⟨v, rfl, r1⟩ := r.one
    obtain ⟨a, us, rfl, ha, rs⟩ := S.dkOf r1 e
    exact ⟨a, us, ks, rfl, .of ha, by rw [← rs.keys]; exact hk, fun ys p h1 h2 h3 => S.newL (reps_intsD ys) (q ys h1 h2) p h3⟩⟩
  mo := fun {ds h Q Q'} hq ⟨x, kvs, ks, e, e2, e3, q⟩ => ⟨x, kvs, ks, e, e2, e3, fun ys h1 h2 => newL_mo hq (q ys h1 h2)⟩
end
end DL
namespace DL
open PySem PySem.Spec L2 C8 PyProof.Rows
/-! ### dict(t), t a tuple of pairs -/
end DL
namespace DL
open PySem PySem.Spec L2 C8 PyProof.Rows
section
variable {X : Cx}
/-- the dict of pairs, later ones win -/
def mergeD (es : List (Key × D)) : List (Key × D) := es.foldl (fun acc e => putD acc e.1 e.2) []
theorem repk_merge {K : PySem.W.Frag} {F : Hp} : ∀ {es : List (Key × D)} {vs : List (Key × V)} {acc : List (Key × D)} {av : List (Key × V)}, RepK K F acc av → RepK K F es vs → RepK K F (es.foldl (fun acc e => putD acc e.1 e.2) acc) (mergeK av vs)
  | _, _, _, _, r, .nil => r
  | _, _, acc, av, r, .cons h t => by
    show RepK K F (List.foldl _ (putD acc _ _) _) (mergeK (putK av _ _) _)
    exact repk_merge (r.put _ h) t
theorem Paired.imp {α β : Type} {F G : α → β → Prop} (h : ∀ a b, F a b → G a b) : ∀ {xs : List α} {ys : List β}, Paired F xs ys → Paired G xs ys
  | _, _, .nil => .nil
  | _, _, .cons p t => .cons (h _ _ p) (Paired.imp h t)
end
end DL
namespace DL
open PySem PySem.Spec L2 C8
/-! ### a dict written out; an empty one that does not change -/
section
variable {X : Cx} {E : XK} {pos : Pos}
def wDnewF : WE := fun _ h Q _ => Q (.dK []) h
theorem ae_dnewF : AE X E (.Dict [] [] pos) wDnewF := by
  refine ⟨PE.imp pe_dnewK fun σ H Q ⟨F, ρ, h, S, R, q⟩ => ?_, fun ρ h Q Q' X X' hq _ q => hq _ _ q⟩
  intro p hp
  obtain ⟨f, g⟩ := S.free hp
  exact q _ _ _ (ext_upd f) (S.newF hp (.dK [])) (.dK upd_same .nil)
def wPairs : List (WE × WE) → EnvD → AH → (List (D × D) → AH → Prop) → KX → Prop
  | [], _, h, Q, _ => Q [] h
  | p :: r, ρ, h, Q, X => p.1 ρ h (fun x h1 => p.2 ρ h1 (fun y h2 => wPairs r ρ h2 (fun ps h3 => Q ((x, y) :: ps) h3) X) X) X
def wDisp (ps : List (WE × WE)) : WE := fun ρ h Q X => ∀ p, h p = none → wPairs ps ρ (up h p (.dK [])) (fun ps h2 => h2 p = some (.dK []) ∧ ∃ kvs : List (Key × D), ps = kvs.map (fun kv => (kD kv.1, kv.2)) ∧ kvs.length ≤ 15 ∧ Q (.ref p) (up h2 p (.dK (mergeD kvs)))) X
inductive RepPs (K : PySem.W.Frag) (F : Hp) : List (D × D) → List (V × V) → Prop where
  | nil : RepPs K F [] []
  | cons {x y : D} {v u : V} {ps : List (D × D)} {qs : List (V × V)} (h1 : Rep K F x v) (h2 : Rep K F y u) (t : RepPs K F ps qs) : RepPs K F ((x, y) :: ps) ((v, u) :: qs)
def MoP (ps : List (WE × WE)) : Prop := ∀ ρ h Q Q' X X', (∀ d h, Q d h → Q' d h) → (∀ x h, X x h → X' x h) → wPairs ps ρ h Q X → wPairs ps ρ h Q' X'
structure APs (X : Cx) (E : XK) (pos : Pos) (keys : List (Option Expr)) (values : List Expr) (ps : List (WE × WE)) : Prop where
  run : PPs X pos keys values (ps.map fun p => (tE X.K E p.1, tE X.K E p.2))
  mo : ∀ p ∈ ps, MoE p.1 ∧ MoE p.2
theorem aps_nil : APs X E pos [] [] [] := ⟨pps_nil, fun _ h => by cases h⟩
theorem aps_cons {k v : Expr} {ks : List (Option Expr)} {vs : List Expr} {wk wv : WE} {ps : List (WE × WE)} (hk : AE X E k wk) (hv : AE X E v wv) (hr : APs X E pos ks vs ps) : APs X E pos (some k :: ks) (v :: vs) ((wk, wv) :: ps) :=
  ⟨pps_cons hk.run hv.run hr.run, fun p h => by
    rcases List.mem_cons.mp h with rfl | h
    · exact ⟨hk.mo, hv.mo⟩
    · exact hr.mo p h⟩
theorem pairs_mo : ∀ {ps : List (WE × WE)}, (∀ p ∈ ps, MoE p.1 ∧ MoE p.2) → MoP ps
  | [], _, _, _, _, _, _, _, hq, _, q => hq _ _ q
  | p :: r, h, ρ, h0, Q, Q', X, X', hq, hx, q => by
    have hp := h p (List.mem_cons_self ..)
    exact hp.1 _ _ _ _ _ _ (fun x h1 q => hp.2 _ _ _ _ _ _ (fun y h2 q => pairs_mo (fun z hz => h z (List.mem_cons_of_mem _ hz)) _ _ _ _ _ _ (fun _ _ z => hq _ _ z) hx q) hx q) hx q
theorem pairs_to : ∀ {ps : List (WE × WE)}, (∀ p ∈ ps, MoE p.1 ∧ MoE p.2) → ∀ {F : Hp} {ρ : EnvD} {h : AH} {σ : L2.St} {H : Hp} {Q : List (D × D) → AH → Prop} {Qv : List (V × V) → Hp → Prop}, Sim X.K F h H → EnvR X.K F ρ σ → wPairs ps ρ h Q (LX X.K F E) →
    (∀ F' h' H' ds vs, Ext F F' → Sim X.K F' h' H' → RepPs X.K F' ds vs → Q ds h' → Qv vs H') → tPairs (ps.map fun p => (tE X.K E p.1, tE X.K E p.2)) σ H Qv
  | [], _, F, ρ, h, σ, H, Q, Qv, S, R, q, k => k _ _ _ _ _ (.refl F) S .nil q
  | p :: r, hm, F, ρ, h, σ, H, Q, Qv, S, R, q, k => by
    have hp := hm p (List.mem_cons_self ..)
    have hr : ∀ z ∈ r, MoE z.1 ∧ MoE z.2 := fun z hz => hm z (List.mem_cons_of_mem _ hz)
    refine ⟨F, ρ, h, S, R, hp.1 _ _ _ _ _ _ (fun x h1 z => ?_) (fun _ _ z => z) q⟩
    intro F1 H1 v e1 S1 r1
    refine ⟨F1, ρ, h1, S1, R.ext e1, hp.2 _ _ _ _ _ _ (fun y h2 z => ?_) (fun _ _ z => LX.ext e1 z) z⟩
    intro F2 H2 u e2 S2 r2
    refine pairs_to hr S2 (R.ext (e1.trans e2)) (pairs_mo hr _ _ _ _ _ _ (fun _ _ z => z) (fun _ _ z => LX.ext (e1.trans e2) z) z) fun F3 h3 H3 ds vs e3 S3 rs q3 => ?_
    exact k F3 h3 H3 _ _ ((e1.trans e2).trans e3) S3 (.cons (r1.ext (e2.trans e3)) (r2.ext e3) rs) q3
theorem repps_keys {K : PySem.W.Frag} {F : Hp} : ∀ {kvs : List (Key × D)} {qs : List (V × V)}, RepPs K F (kvs.map fun kv => (kD kv.1, kv.2)) qs → ∃ vs : List (Key × V), qs = vs.map (fun kv => (kV kv.1, kv.2)) ∧ RepK K F kvs vs
  | [], _, r => by cases r; exact ⟨[], rfl, .nil⟩
  | (k, d) :: kvs, _, r => by
    cases r with
    | @cons x y v u ps qs h1 h2 t =>
      obtain ⟨vs, e, rk⟩ := repps_keys t
      refine ⟨(k, u) :: vs, ?_, .cons h2 rk⟩
      cases k with
      | inl i => cases h1; rw [List.map_cons, e]; rfl
      | inr s => cases h1; rw [List.map_cons, e]; rfl
theorem RepK.len {K : PySem.W.Frag} {F : Hp} {kvs : List (Key × D)} {vs : List (Key × V)} (r : RepK K F kvs vs) : kvs.length = vs.length := by
  induction kvs generalizing vs with
  | nil => cases r; rfl
  | cons x xs ih => cases r with | cons h t => rw [List.length_cons, List.length_cons, ih t]
theorem ae_disp {keys : List (Option Expr)} {values : List Expr} {ps : List (WE × WE)} (h : APs X E pos keys values ps) (hall : keys.all (·.isSome) = true := by rfl) (hl : keys.length = values.length := by rfl) (h0 : keys ≠ [] := by simp)
    (h15 : keys.length ≤ 15 := by decide) : AE X E (.Dict keys values pos) (wDisp ps) := by
  refine ⟨PE.imp (pe_disp h.run hall hl h0 h15) fun σ H Q ⟨F, ρ, g, S, R, q⟩ => ?_, fun ρ g Q Q' X X' hq hx q p hp => pairs_mo h.mo _ _ _ _ _ _ (fun ds h2 ⟨e, kvs, e1, l, z⟩ => ⟨e, kvs, e1, l, hq _ _ z⟩) hx (q p hp)⟩
  intro p hp
  obtain ⟨f, gg⟩ := S.free hp
  refine pairs_to h.mo (S.newM hp (o := .dK []) ⟨[], rfl, .nil⟩) R (q p gg) fun F' h' H' ds vs e S' rs ⟨e1, kvs, ed, lk, z⟩ => ?_
  subst ed
  obtain ⟨ws, ew, rk⟩ := repps_keys rs
  subst ew
  obtain ⟨_, u, hu, us, rfl, ru⟩ := S'.ob _ _ e1
  cases ru
  refine ⟨hu, ws, rfl, by rw [← RepK.len rk]; exact lk, z _ _ _ e (S'.put e1 (o := .dK (mergeD kvs)) ⟨_, rfl, repk_merge .nil rk⟩) (.ref p)⟩
end
end DL
namespace DL
open PySem PySem.Spec L2 C8
/-! ### repr of data within which empty dicts may stand -/
end DL
namespace PySem.W
open PySem PySem.Spec PySem.Calls PyProof.Rows
end PySem.W
namespace DL
open PySem PySem.Spec L2 C8
end DL
namespace PySem.W
open PySem PySem.Spec PySem.Calls PyProof.Rows
end PySem.W
namespace L2
open PySem PySem.Spec PyProof.Rows
end L2
namespace DL
open PySem PySem.Spec L2 C8
end DL
namespace DL
open PySem PySem.Spec L2 C8
/-! ### a tuple of texts that a name of the module holds -/
end DL
namespace DL
open PySem PySem.Spec L2 C8
/-! ### the draw of the laws k01-k11, k47-k57, k96-k99 -/
end DL
namespace DL
open PySem PySem.Spec L2 C8 PyProof.Rows
/-! ### max(d, default=x), d with int keys -/
section
variable {X : Cx}
def rMaxDd : List V → List V → Hp → VK → Prop := fun xs zs H Q => ∃ (a : Addr) (z : V) (kvs : List (Key × V)) (ks : List Int), xs = [.ref a] ∧ zs = [z] ∧ H a = some (.dK kvs) ∧ kvs.map (·.1) = ks.map Sum.inl ∧ (ks = [] → Q z H) ∧ ∀ m, m ∈ ks → (∀ y ∈ ks, y ≤ m) → Q (.int m) H
theorem cr_maxDd (hc : X.calm = true) : CallRK X (.builtin "max") ["default"] (rMaxDd) := by
  intro pins s σ H xs zs us ws Q I r rz h
  obtain ⟨a, z, kvs, ks, rfl, rfl, ha, hks, q0, q1⟩ := h
  obtain rfl := Vals.ref1 r
  obtain ⟨zv, rfl, rzv⟩ := vals1 rz
  obtain ⟨zl, lo, vs, rel, dd⟩ := (show ObjOk X.prog X.w H s.heap a (.dK kvs) from I.hok a _ ha)
  obtain ⟨ep, hat⟩ := dd.dictAt
  have hkeys : vs.map (·.1) = ks.map Sum.inl := (KV.keys rel).symm.trans hks
  have hl : vs.length = ks.length := by
    have e := congrArg List.length hkeys
    rw [List.length_map, List.length_map] at e
    exact e
  have hlt : a < s.heap.objs.size := hat.lt_size
  have pv : ∀ (i : Nat) (v : Value), (∃ k x, vs[i]? = some (k, x) ∧ (mixKind X.prog X.w).is k v = true) → ∃ t, v = .int (ks.getD i 0) t := fun i v ⟨k, x, e1, e2⟩ => by
    have e3 : (vs.map (·.1))[i]? = some k := by rw [List.getElem?_map, e1]; rfl
    rw [hkeys, List.getElem?_map] at e3
    cases e4 : ks[i]? with
    | none => rw [e4] at e3; cases e3
    | some y =>
      rw [e4] at e3
      have e5 : Sum.inl y = k := Option.some.inj e3
      subst e5
      rcases keyIs_shape (show keyIs (Sum.inl y) v = true from e2) with ⟨i, t, ek, ev⟩ | ⟨z, t, ek, ev⟩
      · cases ek
        exact ⟨t, by rw [ev, List.getD_eq_getElem?_getD, e4]; rfl⟩
      · cases ek
  show wpAny _ _ (call (.builtin "max") [.ref a] [(Str.ofString "default", zv)]) _ _ _
  refine call_max_walkD (wpAny_pyIter_dict lo hat ?_)
  refine ⟨s.heap.objs.size, _, _, _, vs.length, _, _, s.heap, (fun i j => decide (ks.getD i 0 > ks.getD j 0)), rfl, (Walks.dictKeys (A := X.A.in1) (knd := mixKind X.prog X.w) (I.ok.hd hc) s.heap.objs.size a (Nat.ne_of_lt hlt) vs ep).toS, ⟨⟨_, Heap.get?_push_size _ rfl, rfl, rfl⟩, hat.push _⟩, fun b hb => ?_, fun b o e hb => ?_, fun b o e => Heap.get?_push_of_some _ e, fun hn s' hm => ?_, fun hn => ⟨fun i j vi vj s Q E _ h1 h2 h3 => CmpOf.ints_gt (fun i => ks.getD i 0) pv i j vi vj s Q E h1 h2 h3, fun v s' hP hm => ?_⟩⟩
  · show b < (s.heap.push _).objs.size
    rw [Heap.size_push]
    rcases List.mem_cons.mp hb with rfl | hb
    · exact Nat.lt_succ_self _
    · rcases List.mem_cons.mp hb with rfl | hb
      · exact Nat.lt_succ_of_lt hlt
      · cases hb
  · exact absurd (Heap.lt_size e) ((List.mem_singleton.mp hb) ▸ Nat.lt_irrefl _)
  · obtain ⟨h', tk, rfl, hk'⟩ := PySem.W.moved_old rfl rfl hm
    exact ⟨z, H, I.kept hk', rzv, q0 (List.eq_nil_of_length_eq_zero (by omega))⟩
  · obtain ⟨h', tk, rfl, hk'⟩ := PySem.W.moved_old rfl rfl hm
    obtain ⟨t, rfl⟩ := pv _ v hP
    obtain ⟨h1, h2⟩ := argBest_gt (fun i => ks.getD i 0) (vs.length - 1)
    refine ⟨.int _, H, I.kept hk', ⟨t, rfl⟩, q1 _ ?_ fun y hy => ?_⟩
    · exact PySem.getD_mem (by omega)
    · obtain ⟨j, hj, rfl⟩ := mem_getD hy
      exact h2 j (by omega)
end
section
variable {X : Cx} {E : XK} {gz : Bool} {k : Nat} {o e : Expr} {wo wv : WE} {pos p kpos : Pos}
def wMaxDd (wl wk : WA) : WE := fun ρ h Q X => wl ρ h (fun xs h1 => wk ρ h1 (fun zs h2 => ∃ (x z : D) (kvs : List (Key × D)) (ks : List Int), xs = [x] ∧ zs = [z] ∧ dkOf h2 x = some kvs ∧ kvs.map (·.1) = ks.map Sum.inl ∧ (ks = [] → Q z h2) ∧ ∀ m, m ∈ ks → (∀ y ∈ ks, y ≤ m) → Q (.int m) h2) X) X
theorem ae_maxDd {wl wk : WA} (hm : X.mg "max" = none) (c : Cg gz X E k) (A1 : AA X E [o] wl) (A2 : AK X E [⟨some "default", e, kpos⟩] wk) (hg : Gl X "max" := by rfl)
    (he : backTo pos (starEach [o] X.env) = (false, eval o X.env) :: backTo pos (starEach [] X.env) := by rfl) (hpl : (backTo pos (starEach [o] X.env)).any (·.1) = false := by rfl)
    (hall : (backToKw pos (keywordEach [⟨some "default", e, kpos⟩] X.env)).all (·.1.isSome) = true := by rfl) (hnone : (backToKw pos (keywordEach [⟨some "default", e, kpos⟩] X.env)).any (·.1.isNone) = false := by rfl) (hks : (backToKw pos (keywordEach [⟨some "default", e, kpos⟩] X.env)).filterMap (·.1) = [("default" : Str)] := by rfl) :
    AE X E (.Call (.Name "max" p) [o] [⟨some "default", e, kpos⟩] pos) (wMaxDd wl wk) := by
  refine ⟨PE.imp (pe_callBK (cr_maxDd c.calm) hg hm bb_max A1.run A2.run (he := he) (hpl := hpl) (hall := hall) (hnone := hnone) (hks := hks)) fun σ H Q ⟨F, ρ, h, S, R, q⟩ => ?_, fun ρ h Q Q' X X' hq hx q => A1.mo _ _ _ _ _ _ (fun xs h1 z => A2.mo _ _ _ _ _ _ (fun zs h2 ⟨x, y, kvs, ks, e1, e2, e3, e4, z1, z2⟩ => ⟨x, y, kvs, ks, e1, e2, e3, e4, fun e => hq _ _ (z1 e), fun m h1 h2 => hq _ _ (z2 m h1 h2)⟩) hx z) hx q⟩
  refine ⟨F, ρ, h, S, R, A1.mo _ _ _ _ _ _ (fun xs h1 z => ?_) (fun _ _ z => z) q⟩
  intro F1 H1 vs e1 S1 rs
  refine ⟨F1, ρ, h1, S1, R.ext e1, A2.mo _ _ _ _ _ _ (fun zs h2 z => ?_) (fun _ _ z => LX.ext e1 z) z⟩
  intro F2 H2 ws e2 S2 rw'
  obtain ⟨x, y, kvs, ks, rfl, rfl, d1, d2, z1, z2⟩ := z
  obtain ⟨vx, rfl, rx⟩ := rs.one
  obtain ⟨vy, rfl, ry⟩ := rw'.one
  obtain ⟨a, us, rfl, hu, rk⟩ := S2.dkOf (rx.ext e2) d1
  exact ⟨a, vy, us, ks, rfl, rfl, hu, by rw [← rk.keys]; exact d2, fun e => (LQ.ext (e1.trans e2) (z1 e)).at S2 ry, fun m h1 h2 => (LQ.ext (e1.trans e2) (z2 m h1 h2)).at S2 (.int m)⟩
end
end DL
namespace DL
open PySem PySem.Spec L2 C8 PyProof.Rows
/-! ### tuple(d.items()) -/
section
variable {prog : Program} {w : World} {A : Around} {E : Value → Shared → Prop} {s : Shared} {K : Type} [DecidableEq K] {knd : KeyKind prog w K} {r d : Addr} {kvs : List (K × Value)} {ep : Nat}
theorem code_tuple_new_view {Q₁ : Value → Shared → Prop} (hh : A.handled = none) (hv : s.heap.IsItemsView r d) (hm : s.heap.DictAt knd d kvs ep) (hn : kvs.length ≤ sizeLine)
    (h : ∀ (h' : Heap) (tk : Nat) (as : List Addr), (∀ b o, s.heap.get? b = some o → h'.get? b = some o) → as.length = kvs.length → PySem.W.KdxG knd kvs s.heap.objs.size h' as →
      Q₁ (.ref h'.objs.size) { s with heap := h'.push { cls := .type "tuple", data := .seq (as.map Value.ref).toArray }, toks := tk }) :
    codeAny (model prog w) A (.call (.builtin "tuple.__new__") ⟨[.type "tuple", .ref r], []⟩) (wants Q₁ E) s := by
  refine codeAny_of_tree ?_
  show wpAny _ A.in1 (do checkBuiltinCall "tuple.__new__" ⟨[.type "tuple", .ref r], []⟩; again (.builtin "tuple.__new__" ⟨[.type "tuple", .ref r], []⟩)) _ _ s
  refine wpAny_bind (wpAny_of_eq (F.newCall_tuple_1 _) (wpAny_pure ⟨plainId_quiet F.plain_tuple_new _, codeAny_builtin F.entry_tuple_new ?_⟩))
  rw [Around.under_plainId F.plain_tuple_new _]
  have hsub := sub_tuple_self
  have hinit := init_tuple_lookup
  have hmh := madeHere_tuple
  have hTI : s.TypeIs (.ref r) "dict_items" := hv.typeIs
  have hh1 : A.in1.handled = none := hh
  wp_walk using wpAny_typeOf hTI, PySem.W.kdx_collect (A := A.in1) hh1 hv hm hn
  intro h' tk as hk hl hG
  show wpAny _ _ (Builtin.Tuple.tupleExact (as.map Value.ref).toArray >>= fun v => ret v) _ _ _
  unfold Builtin.Tuple.tupleExact
  refine wpAny_bind (wpAny_newObj_type ?_ (by show (as.map Value.ref).toArray.size ≤ sizeLine; rw [List.size_toArray, List.length_map, hl]; exact hn))
  refine wpAny_pure ?_
  exact h h' tk as hk hl hG
theorem call_tuple_view {Q : Value → Shared → Prop} (hh : A.handled = none) (hv : s.heap.IsItemsView r d) (hm : s.heap.DictAt knd d kvs ep) (hn : kvs.length ≤ sizeLine)
    (hQ : ∀ (h' : Heap) (tk : Nat) (as : List Addr), (∀ b o, s.heap.get? b = some o → h'.get? b = some o) → as.length = kvs.length → PySem.W.KdxG knd kvs s.heap.objs.size h' as →
      Q (.ref h'.objs.size) { s with heap := h'.push { cls := .type "tuple", data := .seq (as.map Value.ref).toArray }, toks := tk }) :
    wpAny (model prog w) A (call (.type "tuple") [.ref r]) Q E s := by
  refine callType_codes (Q₁ := fun obj s₁ => s₁.TypeIs obj "tuple" ∧ Q obj s₁) F.called_tuple (F.typeCall_tuple_1 _) F.entry_object_init
    (code_tuple_new_view (A := A.in1) hh hv hm hn fun h' tk as hk hl hG => ⟨⟨_, Heap.get?_push_size _ rfl, rfl⟩, hQ h' tk as hk hl hG⟩) fun obj s₁ h₁ => ?_
  exact ⟨h₁.1, F.args_object_init_2 obj _, object_init_meets F.called_tuple.init.lookup F.called_tuple.made (by decide) prog w A.in1 _ s₁ ⟨h₁.1, rfl, h₁.2⟩⟩
end
section
variable {X : Cx}
def rTupView : List V → Hp → VK → Prop := fun vs H Q => ∃ (p a : Addr) (kvs : List (Key × V)), vs = [.ref p] ∧ H p = some (L2.DX.itemsO p a) ∧ H a = some (.dK kvs) ∧
  ∀ (H' : Hp) (q : Addr) (ts : List Addr), (∀ b o, H b = some o → H' b = some o) → H q = none → (∀ t ∈ ts, H t = none ∧ t ≠ q) → H' q = some (.tup (ts.map V.ref)) → Paired (fun (t : Addr) (e : Key × V) => H' t = some (.tup [kV e.1, e.2])) ts kvs → Q (.ref q) H'
theorem paired_mk {α β : Type} {F : α → β → Prop} : ∀ {xs : List α} {ys : List β}, xs.length = ys.length → (∀ (j : Nat) x y, xs[j]? = some x → ys[j]? = some y → F x y) → Paired F xs ys
  | [], [], _, _ => .nil
  | [], _ :: _, h, _ => by cases h
  | _ :: _, [], h, _ => by cases h
  | x :: xs, y :: ys, h, f => .cons (f 0 x y rfl rfl) (paired_mk (Nat.succ.inj h) fun j x y h1 h2 => f (j + 1) x y (by simpa using h1) (by simpa using h2))
theorem cr_tupView (hc : X.calm = true) : CallR X (.type "tuple") rTupView := by
  intro pins s σ H xs us Q I r h
  obtain ⟨p, a, kvs, rfl, hp, ha, q⟩ := h
  obtain rfl := Vals.ref1 r
  have view : s.heap.IsItemsView p a := (show ObjOk X.prog X.w H s.heap p (L2.DX.itemsO p a) from I.hok p _ hp).1
  obtain ⟨z, lo, vs, rel, dd⟩ := (show ObjOk X.prog X.w H s.heap a (.dK kvs) from I.hok a _ ha)
  obtain ⟨ep, hat⟩ := dd.dictAt
  have lk : kvs.length = vs.length := Paired.length rel
  refine call_tuple_view (knd := mixKind X.prog X.w) (kvs := vs) (ep := ep) (I.ok.hd hc) view hat (by rw [← lk]; exact z) fun h' tk as hk hl hG => ?_
  have I1 : Inv X pins σ H { s with heap := h', toks := tk } := I.kept hk
  have nda : as.Nodup := List.Pairwise.imp (fun h => Nat.ne_of_lt h) hG.rise
  have lss : sizeLine = 16777216 := sizeLine_eq
  obtain ⟨H2, I2, sm, tup⟩ := L2.DX.takeT (P := fun b ws => ∃ (j : Nat) (e : Key × V), as[j]? = some b ∧ kvs[j]? = some e ∧ ws = [kV e.1, e.2]) I as H I1 nda fun b hb => by
    obtain ⟨j, hj⟩ := List.mem_iff_getElem?.mp hb
    have hbl : s.heap.objs.size ≤ b := Nat.le_of_lt (hG.above b hb)
    obtain ⟨key, k, x, f1, f2, f3⟩ := hG.pairs j b hj
    obtain ⟨e, he⟩ : ∃ e, kvs[j]? = some e := by
      have : j < kvs.length := by rw [lk]; exact (List.getElem?_eq_some_iff.mp f1).1
      exact ⟨_, List.getElem?_eq_getElem this⟩
    obtain ⟨y, g1, g2, g3⟩ := LiI.paired_get rel he
    rw [f1] at g1
    cases g1
    have rk : RelV (kV e.1) key := by
      rw [g2]
      exact relV_key (show keyIs k key = true from f2)
    exact ⟨hbl, I.hok.fresh hbl, _, ⟨j, e, hj, he, rfl⟩, fun H3 => ⟨by rw [lss]; show 2 ≤ 16777216; omega, _, .cons rk (.cons g3 .nil), ⟨_, f3, rfl, 0, rfl⟩⟩⟩
  have fresh : H2 h'.objs.size = none := I2.hok.fresh (Nat.le_refl _)
  have below : ∀ b ∈ as, b ≠ h'.objs.size := fun b hb e => by
    obtain ⟨_, _, z⟩ := tup b hb
    rw [e, fresh] at z; cases z
  have I3 : Inv X pins σ (upd H2 h'.objs.size (.tup (as.map V.ref))) { s with heap := h'.push { cls := .type "tuple", data := .seq (as.map Value.ref).toArray }, toks := tk } :=
    I2.laid (t' := tk) (fun b o e => Heap.get?_push_of_some _ e) (Nat.le_refl _) (show ObjOk X.prog X.w _ _ _ (.tup (as.map V.ref)) from ⟨by rw [List.length_map, hl, ← lk]; exact z, as.map Value.ref, LiI.vals_refs as, IsTup.new _ _⟩)
  refine ⟨.ref h'.objs.size, _, I3, rfl, q _ _ as (fun b o e => ?_) ?_ (fun t ht => ⟨I.hok.fresh (Nat.le_of_lt (hG.above t ht)), below t ht⟩) upd_same (paired_mk (by rw [hl, lk]) fun j t e h1 h2 => ?_)⟩
  · have := sm b o e
    rw [upd_ne (by rintro rfl; rw [fresh] at this; cases this)]
    exact this
  · cases e : H h'.objs.size with
    | none => rfl
    | some o => rw [sm _ _ e] at fresh; cases fresh
  · have hb := List.mem_of_getElem? h1
    obtain ⟨ws, ⟨j2, e2, g1, g2, rfl⟩, e3⟩ := tup t hb
    have : j2 = j := (List.getElem?_inj (List.getElem?_eq_some_iff.mp g1).1 nda).mp (g1.trans h1.symm)
    subst this
    rw [g2] at h2; cases h2
    rw [upd_ne (below t hb)]
    exact e3
end
/-- a pair of a dict as data -/
def kvD (e : Key × D) : D := .tup [kD e.1, e.2]
def wTupIt (wo : WE) : WE := fun ρ h Q X => wo ρ h (fun x h1 => ∃ kvs, dkOf h1 x = some kvs ∧ Q (.tup (kvs.map kvD)) h1) X
section
variable {X : Cx} {E : XK} {gz : Bool} {k : Nat} {o : Expr} {wo : WE} {apos cpos pos : Pos}
theorem dk_tyV {K : PySem.W.Frag} {H : Hp} {a : Addr} {vs : List (Key × V)} (hu : H a = some (.dK vs)) : tyV K "dict" (.ref a) H := .inr (.inr (.inl ⟨rfl, .inl ⟨_, hu⟩⟩))
theorem ae_tupIt {pn : Pos} (hm : X.mg "tuple" = none) (c : Cg gz X E k) (ho : AE X E o wo) (hg : Gl X "tuple" := by rfl)
    (hbase : attributeBase o "items" X.env (eval o X.env) = eval o X.env := by rfl)
    (hline : (apos.endLine == cpos.line) = true := by rfl)
    (hst : starEach [Expr.Call (.Attribute o "items" apos) [] [] cpos] X.env = (false, eval (.Call (.Attribute o "items" apos) [] [] cpos) X.env) :: starEach [] X.env := by rfl)
    (hpl : (backTo pos (starEach [] X.env)).any (·.1) = false := by rfl) :
    AE X E (.Call (.Name "tuple" pn) [.Call (.Attribute o "items" apos) [] [] cpos] [] pos) (wTupIt wo) := by
  have P1 := pe_bm0 (cpos := cpos) (apos := apos) PySem.F.plainAttrs_dict PySem.F.slot_dict_items PySem.F.type_dict_items (mt_itemsV (X := X)) ho.run hbase hline
  have P2 := pe_callTy (pos := pos) (p := pn) (cr_tupView c.calm) hg hm bb_tuple (pa_cons P1 pa_nil hst) (he := hst) (hpl := hpl)
  refine ⟨PE.imp P2 fun σ H Q ⟨F, ρ, h, S, R, q⟩ => ?_, fun ρ h Q Q' X X' hq hx q => ho.mo _ _ _ _ _ _ (fun x h1 ⟨kvs, e1, z⟩ => ⟨kvs, e1, hq _ _ z⟩) hx q⟩
  refine ⟨F, ρ, h, S, R, ho.mo _ _ _ _ _ _ (fun x h1 z => ?_) (fun _ _ z => z) q⟩
  intro F1 H1 v e1 S1 r
  obtain ⟨kvs, ea, z⟩ := z
  obtain ⟨a, vs, rfl, hu, rs⟩ := S1.dkOf r ea
  refine ⟨dk_tyV hu, a, vs, rfl, rfl, hu, fun p hp => ?_⟩
  have na : a ≠ p := by rintro rfl; rw [hu] at hp; cases hp
  refine ⟨p, a, vs, rfl, upd_same, by rw [upd_ne na]; exact hu, fun H' l ts sm hl nl hL hT => ?_⟩
  have sm1 : ∀ b o, H1 b = some o → H' b = some o := fun b o e => sm b o (by rw [upd_ne (by rintro rfl; rw [hp] at e; cases e)]; exact e)
  have hl1 : H1 l = none := by
    by_cases c : l = p
    · rw [c]; exact hp
    · rw [upd_ne c] at hl; exact hl
  obtain ⟨F2, x2, S2, g2, g3⟩ := S1.grow sm1 (fun b => true)
  have hn : ∀ t ∈ ts, H1 t = none := fun t ht => by
    obtain ⟨n1, n2⟩ := nl t ht
    by_cases c : t = p
    · rw [c]; exact hp
    · rw [upd_ne c] at n1; exact n1
  have rsT : ∀ (ts : List Addr) (kvs : List (Key × D)) (vs : List (Key × V)), (∀ t ∈ ts, H1 t = none) → RepK X.K F1 kvs vs → Paired (fun (t : Addr) (e : Key × V) => H' t = some (.tup [kV e.1, e.2])) ts vs → Reps X.K F2 (kvs.map kvD) (ts.map V.ref) := by
    intro ts
    induction ts with
    | nil => intro kvs vs _ r pr; cases pr; cases r; exact .nil
    | cons t ts ih =>
      intro kvs vs hn r pr
      cases pr with
      | cons p1 p2 =>
        cases r with
        | cons r1 r2 => exact .cons (.tup (.of ((g2 t (hn t (List.mem_cons_self ..)) rfl).trans p1)) (.cons (kD_rep _) (.cons (r1.ext x2) .nil))) (ih _ _ (fun w hw => hn w (List.mem_cons_of_mem _ hw)) r2 p2)
  exact z F2 H' _ (e1.trans x2) S2 (.tup (.of ((g2 l hl1 rfl).trans hL)) (rsT ts kvs vs hn rs hT))
end
end DL
namespace DL
open PySem PySem.Spec L2 C8
/-! ### what a class gives, bundled -/
section
variable (P : Program) (w : World) (K : PySem.W.Frag) (mg : Str → Option Value) (base : Heap)
structure MakC (x : Str) (C : Addr) (k : Nat) (S : FSpec) : Prop where
  ex : ∃ fI, Mk K C fI ∧ FnRD P w K mg base k fI S
  mo : MoF S
  at_ : mg x = some (.ref C)
structure PrpC (C : Addr) (f : Str) (k : Nat) (S : FSpec) : Prop where
  cl : Cls K C
  ex : ∃ pa g fd ps, PropOf K C f pa g ∧ FnG false P w K mg base k g fd ps S ∧ Binds K fd ps []
structure IxC (C : Addr) (k : Nat) (S : FSpec) : Prop where
  ex : ∃ g, PySem.W.findIn K (.ref C) "__getitem__" = some (some (.ref g)) ∧ PySem.W.fnIn K g = true ∧ PySem.W.isFn K (.ref g) = true ∧ FnRD P w K mg base k g S
  mo : MoF S
end
section
variable {X : Cx} {E : XK} {gz : Bool} {k j : Nat} {o a b e fe : Expr} {es : List Expr} {wo wa wb we : WE} {wl : WA} {pos apos p sp_ : Pos} {f x m : Str} {C : Addr} {S : FSpec} {op : Operator}
theorem ag_makeS (c : Cg gz X E k) (M : MakC X.prog X.w X.K X.mg X.base x C j S) (hj : j + 1 ≤ k) (he : AE X E e we)
    (hg : Gl X x := by rfl) (hdb : (x == ("__debug__" : Str)) = false := by decide) (hst : starEach [.Starred e sp_] X.env = [(true, eval e X.env)] := by rfl) : AE X E (.Call (.Name x p) [.Starred e sp_] [] pos) (wMakeS C S we) := by
  obtain ⟨fI, h1, h2⟩ := M.ex
  exact ae_makeS c h1 h2 M.mo hj M.at_ he hg hdb hst
theorem ag_prop (c : Cg gz X E k) (R : PrpC X.prog X.w X.K X.mg X.base C f j S) (hj : j + 1 ≤ k) (ho : AE X E o wo)
    (hab : attributeBase o f X.env (eval o X.env) = eval o X.env := by rfl) : AE X E (.Attribute o f pos) (wProp C S wo) := by
  obtain ⟨pa, g, fd, ps, h1, h2, h3⟩ := R.ex
  exact ae_prop c R.cl h1 h2 h3 hj ho hab
def wCalO (C : Addr) (S : FSpec) (wo : WE) (wl : WA) : WE := wCallO C S (fun ρ h Q X => wo ρ h (fun y h1 => (∃ fs, insOf h1 y = some (C, fs)) ∧ Q y h1) X) wl
theorem ag_ixOwn (c : Cg gz X E k) (R : IxC X.prog X.w X.K X.mg X.base C j S) (hj : j + 1 ≤ k)
    (ha : AE X E a wa) (hb : AE X E b wb) (hs : ∀ v u, subscripted b true v u = runValue (.builtin "lifetime.subscript" ⟨[v, u], []⟩) := by intro _ _; rfl) : AE X E (.Subscript a b pos) (wOp (dIxOwn C S) wa wb) := by
  obtain ⟨g, h1, h2, h3, h4⟩ := R.ex
  exact ae_ixOwn c h1 h2 h3 h4 R.mo hj ha hb hs
end
/-! ### how the readings unfold -/
section
variable {ρ : EnvD} {h : AH} {Q : KD} {X : KX} {D0 : EndsD} {a b wo wv : WE} {wl wk : WA} {C : Addr} {S : FSpec} {f m : Str} {fs : List (Str × D)} {x y : D} {mm : Bool}
theorem u_prop : wProp C S wo ρ h Q X = wo ρ h (fun x h1 => isI C x h1 ∧ S [x] h1 Q (fun _ _ => False)) X := rfl
theorem u_fld : wFld C f wo ρ h Q X = wo ρ h (fun x h1 => ∃ fs d, insOf h1 x = some (C, fs) ∧ fs.lookup f = some d ∧ Q d h1) X := rfl
theorem u_setF : wSetF C f wo wv D0 ρ h = wv ρ h (fun z h1 => wo ρ h1 (fun x h2 => ∃ a fs, x = .ref a ∧ h2 a = some (.ins C fs) ∧ fs.length < 1000 ∧ D0.nx ρ (up h2 a (.ins C (putFD f z fs)))) D0.ex) D0.ex := rfl
theorem u_make : wMake C S wl ρ h Q X = wl ρ h (fun ds h1 => ∀ a, h1 a = none → S (.ref a :: ds) (up h1 a (.ins C [])) (fun v h2 => v = .non ∧ ∃ fs, h2 a = some (.ins C fs) ∧ Q (.ob C fs) (rm h2 a)) X) X := rfl
theorem u_makeS : wMakeS C S wo ρ h Q X = wo ρ h (fun y h1 => ∃ ds, seqOf h1 y = some ds ∧ ∀ a, h1 a = none → S (.ref a :: ds) (up h1 a (.ins C [])) (fun v h2 => v = .non ∧ ∃ fs, h2 a = some (.ins C fs) ∧ Q (.ob C fs) (rm h2 a)) X) X := rfl
theorem u_met : wMet C m S wo wl ρ h Q X = wo ρ h (fun x h1 => ∃ fs, insOf h1 x = some (C, fs) ∧ fs.lookup m = none ∧ wl ρ h1 (fun ds h2 => S (x :: ds) h2 Q X) X) X := rfl
theorem u_calO : wCalO C S wo wl ρ h Q X = wo ρ h (fun y h1 => (∃ fs, insOf h1 y = some (C, fs)) ∧ wl ρ h1 (fun ds h2 => (∃ fs, insOf h2 y = some (C, fs)) ∧ S (y :: ds) h2 Q X) X) X := rfl
theorem u_orT : wOrT a b ρ h Q X = a ρ h (fun x h1 => ∃ k, truD h1 x = some k ∧ if k = true then Q x h1 else b ρ h1 Q X) X := rfl
theorem u_tupIt : wTupIt wo ρ h Q X = wo ρ h (fun x h1 => ∃ kvs, dkOf h1 x = some kvs ∧ Q (.tup (kvs.map kvD)) h1) X := rfl
theorem u_dnew : wDnew ρ h Q X = ∀ p, h p = none → Q (.ref p) (up h p (.dK [])) := rfl
theorem u_dput {wi : WE} : wDput wo wi wv D0 ρ h = wv ρ h (fun z h1 => wo ρ h1 (fun x h2 => wi ρ h2 (fun y h3 => ∃ a kvs k, x = .ref a ∧ h3 a = some (.dK kvs) ∧ keyD y = some k ∧ kvs.length < sizeLine ∧ D0.nx ρ (up h3 a (.dK (putD kvs k z)))) D0.ex) D0.ex) D0.ex := rfl
theorem u_get2 {wi wx : WE} : wGet2 wo wi wx ρ h Q X = wo ρ h (fun x h1 => (dkOf h1 x).isSome = true ∧ wi ρ h1 (fun y h2 => wx ρ h2 (fun z h3 => ∃ kvs k, dkOf h3 x = some kvs ∧ keyD y = some k ∧ Q ((valD kvs k).getD z) h3) X) X) X := rfl
theorem u_dget {wi : WE} : wDGet wo wi ρ h Q X = wo ρ h (fun x h1 => wi ρ h1 (fun y h2 => ∃ kvs k d, dkOf h2 x = some kvs ∧ keyD y = some k ∧ valD kvs k = some d ∧ Q d h2) X) X := rfl
theorem u_isi {n : String} : dIsi [x, .ty n] h Q = ∃ t b, tyD h x = some t ∧ L2.kitB t n = some b ∧ Q (.bl b) h := by
  unfold dIsi
  refine propext ⟨?_, ?_⟩
  · rintro ⟨x', t, n', b, e, h1, h2, q⟩
    cases e; exact ⟨t, b, h1, h2, q⟩
  · rintro ⟨t, b, h1, h2, q⟩
    exact ⟨x, t, n, b, rfl, h1, h2, q⟩
theorem u_dc {m : Bool} {wi : WI} {g : WG} {tt : WT} {tk tv : WE} {vs : List Nat} : wDc m wi g tt tk tv vs ρ h Q X = wi ρ h (fun xs st h1 => ∀ p, h1 p = none → dcD st g tt tk tv vs ρ p xs (up h1 p (.dK [])) (endK m p Q)) X := rfl
theorem u_maxDd : wMaxDd wl wk ρ h Q X = wl ρ h (fun xs h1 => wk ρ h1 (fun zs h2 => ∃ (x z : D) (kvs : List (Key × D)) (ks : List Int), xs = [x] ∧ zs = [z] ∧ dkOf h2 x = some kvs ∧ kvs.map (·.1) = ks.map Sum.inl ∧ (ks = [] → Q z h2) ∧ ∀ m, m ∈ ks → (∀ y ∈ ks, y ≤ m) → Q (.int m) h2) X) X := rfl
end
end DL
namespace DL
open PySem PySem.Spec L2 C8
/-! ### lists of pairs of ints as dicts and ledgers: plain theory -/
abbrev Prs := List (Int × Int)
def getI (es : Prs) (k : Int) : Int := ((es.find? fun e => decide (e.1 = k)).map (·.2)).getD 0
def hasI (es : Prs) (k : Int) : Bool := es.any fun e => decide (e.1 = k)
def putI (es : Prs) (k v : Int) : Prs := if hasI es k then es.map (fun e => if e.1 = k then (e.1, v) else e) else es ++ [(k, v)]
def amt (es : Prs) (k : Int) : Int := (es.map fun e => if e.1 = k then e.2 else 0).sum
theorem hasI_iff {es : Prs} {k : Int} : hasI es k = true ↔ ∃ v, (k, v) ∈ es := by
  unfold hasI
  rw [List.any_eq_true]
  constructor
  · rintro ⟨e, h, c⟩
    have : e.1 = k := by simpa using c
    exact ⟨e.2, by rw [← this]; exact h⟩
  · rintro ⟨v, h⟩
    exact ⟨_, h, by simp⟩
theorem hasI_keys {es : Prs} {k : Int} : hasI es k = true ↔ k ∈ es.map (·.1) := by
  rw [hasI_iff, List.mem_map]
  exact ⟨fun ⟨v, h⟩ => ⟨_, h, rfl⟩, fun ⟨e, h, c⟩ => ⟨e.2, by rw [← c]; exact h⟩⟩
theorem keys_put {es : Prs} {k v : Int} : (putI es k v).map (·.1) = if hasI es k then es.map (·.1) else es.map (·.1) ++ [k] := by
  unfold putI
  split
  · rw [List.map_map]
    apply List.map_congr_left
    intro e _
    show (if e.1 = k then (e.1, v) else e).1 = e.1
    split <;> rfl
  · simp
theorem nodup_put {es : Prs} {k v : Int} (h : (es.map (·.1)).Nodup) : ((putI es k v).map (·.1)).Nodup := by
  rw [keys_put]
  split
  · exact h
  · rename_i c
    rw [List.nodup_append]
    refine ⟨h, by simp, fun a ha b hb e => ?_⟩
    have : b = k := by simpa using hb
    subst this
    subst e
    exact c (hasI_keys.mpr ha)
theorem len_put {es : Prs} {k v : Int} : (putI es k v).length ≤ es.length + 1 := by
  unfold putI; split <;> simp
theorem getI_cons {e : Int × Int} {es : Prs} {k : Int} : getI (e :: es) k = if e.1 = k then e.2 else getI es k := by
  unfold getI
  rw [List.find?_cons]
  by_cases c : e.1 = k <;> simp [c]
theorem getI_no {es : Prs} {k : Int} (h : hasI es k = false) : getI es k = 0 := by
  induction es with
  | nil => rfl
  | cons e es ih =>
    have h : (decide (e.1 = k) || hasI es k) = false := h
    rw [Bool.or_eq_false_iff] at h
    rw [getI_cons, if_neg (by simpa using h.1), ih h.2]
theorem getI_mem {es : Prs} (nd : (es.map (·.1)).Nodup) {k v : Int} (h : (k, v) ∈ es) : getI es k = v := by
  induction es with
  | nil => cases h
  | cons e es ih =>
    rw [getI_cons]
    rw [List.map_cons, List.nodup_cons] at nd
    rcases List.mem_cons.mp h with rfl | h
    · simp
    · have : e.1 ≠ k := fun c => nd.1 (by rw [c]; exact List.mem_map.mpr ⟨_, h, rfl⟩)
      rw [if_neg this]; exact ih nd.2 h
theorem getI_append {es fs : Prs} {k : Int} : getI (es ++ fs) k = if hasI es k then getI es k else getI fs k := by
  induction es with
  | nil => simp [hasI]
  | cons e es ih =>
    rw [List.cons_append, getI_cons, getI_cons, ih]
    have : hasI (e :: es) k = (decide (e.1 = k) || hasI es k) := rfl
    rw [this]
    by_cases c : e.1 = k <;> simp [c]
theorem getI_put {es : Prs} {k v j : Int} : getI (putI es k v) j = if j = k then v else getI es j := by
  unfold putI
  split
  · rename_i c
    by_cases e : j = k
    · subst e
      rw [if_pos rfl]
      induction es with
      | nil => cases c
      | cons e es ih =>
        rw [List.map_cons, getI_cons]
        by_cases d : e.1 = j
        · simp [d]
        · have c : (decide (e.1 = j) || hasI es j) = true := c
          rw [if_neg d, if_neg d]
          exact ih (by simpa [d] using c)
    · rw [if_neg e]
      clear c
      induction es with
      | nil => rfl
      | cons x es ih =>
        rw [List.map_cons, getI_cons, getI_cons, ih]
        by_cases d : x.1 = k
        · rw [if_pos d]
          show (if x.1 = j then v else getI es j) = _
          rw [if_neg (fun z => e (z.symm.trans d)), if_neg (fun z => e (z.symm.trans d))]
        · rw [if_neg d]
  · rename_i c
    rw [getI_append, getI_cons]
    by_cases e : j = k
    · subst e; rw [if_pos rfl, if_neg c, if_pos rfl]
    · rw [if_neg e, if_neg (show ¬ (k, v).1 = j from fun z => e z.symm)]
      by_cases d : hasI es j = true
      · rw [if_pos d]
      · rw [if_neg d]
        exact (getI_no (es := es) (by simpa using d)).symm
theorem amt_cons {e : Int × Int} {es : Prs} {k : Int} : amt (e :: es) k = (if e.1 = k then e.2 else 0) + amt es k := by
  unfold amt; rw [List.map_cons, List.sum_cons]
theorem amt_append {es fs : Prs} {k : Int} : amt (es ++ fs) k = amt es k + amt fs k := by
  unfold amt; rw [List.map_append, List.sum_append]
theorem amt_nil {k : Int} : amt [] k = 0 := rfl
theorem amt_get {es : Prs} (nd : (es.map (·.1)).Nodup) {k : Int} : amt es k = getI es k := by
  induction es with
  | nil => rfl
  | cons e es ih =>
    rw [List.map_cons, List.nodup_cons] at nd
    rw [amt_cons, getI_cons, ih nd.2]
    split
    · rename_i c
      rw [getI_no, Int.add_zero]
      cases h : hasI es k with
      | false => rfl
      | true => exact absurd (hasI_keys.mp h) (by rw [← c]; exact nd.1)
    · exact Int.zero_add _
/-- es is the ledger of the amounts A -/
structure Led (es : Prs) (A : Int → Int) : Prop where
  pw : es.Pairwise (fun a b => a.1 < b.1)
  mem : ∀ k v, (k, v) ∈ es ↔ (v = A k ∧ v ≠ 0)
theorem pw_nodup {es : Prs} (h : es.Pairwise (fun a b => a.1 < b.1)) : (es.map (·.1)).Nodup := by
  rw [List.nodup_iff_pairwise_ne, List.pairwise_map]
  exact h.imp fun h => by omega
theorem pw_ext : ∀ {es fs : Prs}, es.Pairwise (fun a b => a.1 < b.1) → fs.Pairwise (fun a b => a.1 < b.1) → (∀ e, e ∈ es ↔ e ∈ fs) → es = fs
  | [], [], _, _, _ => rfl
  | [], f :: fs, _, _, h => absurd ((h f).mpr (List.mem_cons_self ..)) (by simp)
  | e :: es, [], _, _, h => absurd ((h e).mp (List.mem_cons_self ..)) (by simp)
  | e :: es, f :: fs, h1, h2, h => by
    rw [List.pairwise_cons] at h1 h2
    have ef : e = f := by
      rcases List.mem_cons.mp ((h e).mp (List.mem_cons_self ..)) with z | z
      · exact z
      · rcases List.mem_cons.mp ((h f).mpr (List.mem_cons_self ..)) with y | y
        · exact y.symm
        · have a1 := h2.1 e z
          have a2 := h1.1 f y
          omega
    subst ef
    rw [pw_ext h1.2 h2.2 fun x => ?_]
    have hx := h x
    rw [List.mem_cons, List.mem_cons] at hx
    constructor
    · intro m
      rcases hx.mp (.inr m) with rfl | z
      · exact absurd (h1.1 _ m) (by omega)
      · exact z
    · intro m
      rcases hx.mpr (.inr m) with rfl | z
      · exact absurd (h2.1 _ m) (by omega)
      · exact z
theorem Led.unique {es fs : Prs} {A : Int → Int} (h1 : Led es A) (h2 : Led fs A) : es = fs :=
  pw_ext h1.pw h2.pw fun ⟨k, v⟩ => by rw [h1.mem, h2.mem]
theorem Led.of_amt {es : Prs} {A B : Int → Int} (h : Led es A) (e : ∀ k, A k = B k) : Led es B := by
  have : A = B := funext e
  subst this; exact h
/-- the keys in order, those that count -/
def keyed (A : Int → Int) (ys : List Int) : Prs := ys.filterMap fun k => if A k ≠ 0 then some (k, A k) else none
theorem keyed_led {A : Int → Int} {ys : List Int} (pw : ys.Pairwise (· ≤ ·)) (nd : ys.Nodup) (all : ∀ k, A k ≠ 0 → k ∈ ys) : Led (keyed A ys) A := by
  have lt : ys.Pairwise (· < ·) := by
    have := List.Pairwise.and pw (List.nodup_iff_pairwise_ne.mp nd)
    exact this.imp fun ⟨a, b⟩ => by omega
  refine ⟨?_, fun k v => ?_⟩
  · unfold keyed
    rw [List.pairwise_filterMap]
    refine lt.imp ?_
    intro a b h x hx y hy
    have hx : (if A a ≠ 0 then some (a, A a) else none) = some x := hx
    have hy : (if A b ≠ 0 then some (b, A b) else none) = some y := hy
    split at hx
    · split at hy
      · cases hx; cases hy; exact h
      · cases hy
    · cases hx
  · unfold keyed
    rw [List.mem_filterMap]
    constructor
    · rintro ⟨a, m, e⟩
      split at e
      · cases e; rename_i c; exact ⟨rfl, c⟩
      · cases e
    · rintro ⟨rfl, n⟩
      exact ⟨k, all k n, by rw [if_pos n]⟩
theorem keyed_len {A : Int → Int} {ys : List Int} : (keyed A ys).length ≤ ys.length := List.length_filterMap_le ..
/-! ### the same as data -/
theorem valD_toK (es : Prs) (k : Int) : valD (toK es) (Sum.inl k) = (es.find? fun e => decide (e.1 = k)).map fun e => D.int e.2 := by
  unfold valD toK
  rw [List.find?_map]
  have : ((fun kv : Key × D => decide (kv.1 = Sum.inl k)) ∘ fun e : Int × Int => ((Sum.inl e.1 : Key), D.int e.2)) = fun e => decide (e.1 = k) := by
    funext e
    show decide ((Sum.inl e.1 : Key) = Sum.inl k) = decide (e.1 = k)
    simp
  rw [this, Option.map_map]
  rfl
theorem val_getD (es : Prs) (k : Int) : (valD (toK es) (Sum.inl k)).getD (.int 0) = .int (getI es k) := by
  rw [valD_toK]
  unfold getI
  cases es.find? fun e => decide (e.1 = k) <;> rfl
theorem val_some {es : Prs} {k : Int} (h : k ∈ es.map (·.1)) : valD (toK es) (Sum.inl k) = some (.int (getI es k)) := by
  rw [valD_toK]
  unfold getI
  cases e : es.find? fun e => decide (e.1 = k) with
  | some x => rfl
  | none =>
    obtain ⟨x, hx, rfl⟩ := List.mem_map.mp h
    have := List.find?_eq_none.mp e x hx
    simp at this
theorem putD_toK (es : Prs) (k v : Int) : putD (toK es) (Sum.inl k) (.int v) = toK (putI es k v) := by
  unfold putD putI
  have c : ((toK es).any fun kv => decide (kv.1 = (Sum.inl k : Key))) = hasI es k := by
    unfold toK hasI
    rw [List.any_map]
    congr 1
    funext e
    show decide ((Sum.inl e.1 : Key) = Sum.inl k) = decide (e.1 = k)
    simp
  rw [c]
  split
  · unfold toK
    rw [List.map_map, List.map_map]
    apply List.map_congr_left
    intro e _
    show (if (Sum.inl e.1 : Key) = Sum.inl k then ((Sum.inl e.1 : Key), D.int v) else (Sum.inl e.1, D.int e.2)) = ((Sum.inl (if e.1 = k then (e.1, v) else e).1 : Key), D.int (if e.1 = k then (e.1, v) else e).2)
    by_cases z : e.1 = k
    · rw [if_pos (by rw [z]), if_pos z]
    · rw [if_neg (by intro y; exact z (Sum.inl.inj y)), if_neg z]
  · simp [toK]
theorem toK_keys (es : Prs) : (toK es).map (·.1) = (es.map (·.1)).map Sum.inl := by
  unfold toK; rw [List.map_map, List.map_map]; rfl
theorem toK_kv (es : Prs) : (toK es).map kvD = es.map pairD := by
  unfold toK; rw [List.map_map]; rfl
theorem toK_len (es : Prs) : (toK es).length = es.length := by simp [toK]
/-- a ledger as data -/
def ledD (C : Addr) (es : Prs) : D := .ob C [("amounts", .dK (toK es))]
theorem ledD_isI {C : Addr} {es : Prs} {h : AH} : isI C (ledD C es) h := ⟨_, rfl⟩
end DL
namespace DL
open PySem PySem.Spec L2 C8
/-! ### dict comprehensions over what does not change -/
def dstep (f : D → Option (Key × D)) (acc : List (Key × D)) (x : D) : List (Key × D) := match f x with
  | some e => putD acc e.1 e.2
  | none => acc
theorem dstep_len {f : D → Option (Key × D)} {acc : List (Key × D)} {x : D} : (dstep f acc x).length ≤ acc.length + 1 := by
  unfold dstep
  split
  · unfold putD; split <;> simp
  · omega
theorem dc_pure {st : AH → Prop} {g : WG} {tt : WT} {tk tv : WE} {vs : List Nat} {ρ : EnvD} {p : Addr} {xs : List D} {h : AH} {Q : AH → Prop} (f : D → Option (Key × D)) (hst : ∀ acc, st (up h p (.dK acc))) (hl : xs.length ≤ sizeLine)
    (hs : ∀ x acc (K : AH → Prop), x ∈ xs → acc.length < sizeLine → K (up h p (.dK (dstep f acc x))) → g x (wipeD ρ vs) (up h p (.dK acc)) (fun ρ2 h2 => tt ρ2 h2 (fun b h3 => if b = true then tk ρ2 h3 (fun y h4 => tv ρ2 h4 (fun z h5 => ∃ kvs k, keyD y = some k ∧ h5 p = some (.dK kvs) ∧ kvs.length < sizeLine ∧ K (up h5 p (.dK (putD kvs k z)))) (fun _ _ => False)) (fun _ _ => False) else K h3) (fun _ _ => False)) (fun _ _ => False))
    (hd : Q (up h p (.dK (xs.foldl (dstep f) [])))) : dcD st g tt tk tv vs ρ p xs (up h p (.dK [])) Q := by
  suffices H : ∀ (ys : List D) (acc : List (Key × D)), (∀ y ∈ ys, y ∈ xs) → acc.length + ys.length ≤ sizeLine → Q (up h p (.dK (ys.foldl (dstep f) acc))) → dcD st g tt tk tv vs ρ p ys (up h p (.dK acc)) Q from H xs [] (fun _ z => z) (by simpa using hl) hd
  intro ys
  induction ys with
  | nil => intro acc _ _ q; exact ⟨hst _, q⟩
  | cons y ys ih =>
    intro acc hm hl2 q
    rw [List.length_cons] at hl2
    refine ⟨hst _, hs y acc (fun h => dcD st g tt tk tv vs ρ p ys h Q) (hm y (List.mem_cons_self ..)) (by omega) (ih _ (fun z hz => hm z (List.mem_cons_of_mem _ hz)) ?_ q)⟩
    have := dstep_len (f := f) (acc := acc) (x := y)
    omega
/-- the dict of the keys that count -/
def pick0 (A : Int → Int) (x : D) : Option (Key × D) := match x with
  | .int k => if A k ≠ 0 then some (Sum.inl k, .int (A k)) else none
  | _ => none
theorem put_new {es : Prs} {k v : Int} (h : hasI es k = false) : putI es k v = es ++ [(k, v)] := by
  unfold putI; rw [h]; rfl
theorem fold_keyed (A : Int → Int) : ∀ (ys : List Int) (es : Prs), ys.Nodup → (∀ y ∈ ys, hasI es y = false) → (ys.map D.int).foldl (dstep (pick0 A)) (toK es) = toK (es ++ keyed A ys)
  | [], es, _, _ => by simp [keyed]
  | y :: ys, es, nd, hn => by
    rw [List.nodup_cons] at nd
    rw [List.map_cons, List.foldl_cons]
    by_cases c : A y ≠ 0
    · have e1 : dstep (pick0 A) (toK es) (.int y) = toK (es ++ [(y, A y)]) := by
        unfold dstep pick0
        simp only [if_pos c]
        rw [putD_toK, put_new (hn y (List.mem_cons_self ..))]
      have e2 : keyed A (y :: ys) = (y, A y) :: keyed A ys := by
        unfold keyed; rw [List.filterMap_cons, if_pos c]
      rw [e1, fold_keyed A ys _ nd.2 (fun z hz => ?_), e2]
      · simp
      · have h1 := hn z (List.mem_cons_of_mem _ hz)
        have h2 : y ≠ z := fun e => nd.1 (by rw [e]; exact hz)
        show (es ++ [(y, A y)]).any _ = false
        rw [List.any_append]
        have h1 : es.any (fun e => decide (e.1 = z)) = false := h1
        rw [h1]
        simp [h2]
    · have e1 : dstep (pick0 A) (toK es) (.int y) = toK es := by
        unfold dstep pick0
        simp only [if_neg c]
      have e2 : keyed A (y :: ys) = keyed A ys := by
        unfold keyed; rw [List.filterMap_cons, if_neg c]
      rw [e1, fold_keyed A ys _ nd.2 (fun z hz => hn z (List.mem_cons_of_mem _ hz)), e2]
theorem endKF {p : Addr} {h : AH} {kvs : List (Key × D)} {Q : KD} (hp : h p = none) (q : Q (.dK kvs) h) : endK false p Q (up h p (.dK kvs)) := ⟨kvs, up_same, by rw [if_neg (by decide), rm_up, rm_none hp]; exact q⟩
theorem ix_p0 {r : Int × Int} {h : AH} {Q : KD} : dIx (pairD r) (.int 0) h Q = Q (.int r.1) h := u_ixTd at0
theorem ix_p1 {r : Int × Int} {h : AH} {Q : KD} : dIx (pairD r) (.int 1) h Q = Q (.int r.2) h := u_ixTd at1
/-! ### the small defs -/
section
variable {ρ : EnvD} {h : AH} {Q : KD} {X : KX} {D0 : EndsD} {x : D} {t : String}
theorem tyD_in (e : tyD h x = some t) : t = "NoneType" ∨ t = "bool" ∨ t = "int" ∨ t = "str" ∨ t = "tuple" ∨ t = "list" ∨ t = "dict" := by
  unfold tyD at e
  split at e <;> first | (cases e; simp) | cases e
end
def S_isInt : FSpec := fun ds h Q _ => ∃ x t, ds = [x] ∧ tyD h x = some t ∧ Q (.bl (decide (t = "int"))) h
def wr_isInt : WS := (wRet (wAndV (wB dIsi (wCons (wVar 0) (wCons (wC (.ty "int")) wNil))) (wNotV (wB dIsi (wCons (wVar 0) (wCons (wC (.ty "bool")) wNil))))))
theorem pr_isInt : ∀ ds h Q X, S_isInt ds h Q X → wr_isInt (endsD Q X) (startD 1 ds) h := by
  rintro ds h Q X ⟨x, t, rfl, e, q⟩
  show wr_isInt (endsD Q X) [some x] h
  simp only [wr_isInt, u_asg, u_gN, u_ret, u_retN, u_skip, u_expr, u_ifs, u_c, u_op, u_neg, u_test, u_and, u_or, u_not, u_if, u_nil, u_cons, u_tup, u_lst, u_callP, u_call, u_b, u_chain, u_andV, u_addI, u_subI, u_mulI, u_divI, u_modI, u_powI, u_cmpI, u_eqI, u_eqS, u_eqB, u_abs, u_intI, u_intB, u_newT, u_newF, u_isN, u_notN, wVar, List.set_cons_zero, List.set_cons_succ, List.getElem?_cons_zero, List.getElem?_cons_succ, List.length_cons, List.length_nil, u_lc, u_for, u_r1, u_r2, u_r3, u_num, u_notV, u_yes, u_w0, u_w1]
  rcases tyD_in e with rfl | rfl | rfl | rfl | rfl | rfl | rfl
  · exact ⟨x, _, "int", false, rfl, e, rfl, fin_of q⟩
  · exact ⟨x, _, "int", true, rfl, e, rfl, x, _, "bool", true, rfl, e, rfl, fin_of q⟩
  · exact ⟨x, _, "int", true, rfl, e, rfl, x, _, "bool", false, rfl, e, rfl, fin_of q⟩
  · exact ⟨x, _, "int", false, rfl, e, rfl, fin_of q⟩
  · exact ⟨x, _, "int", false, rfl, e, rfl, fin_of q⟩
  · exact ⟨x, _, "int", false, rfl, e, rfl, fin_of q⟩
  · exact ⟨x, _, "int", false, rfl, e, rfl, fin_of q⟩
theorem len_isInt : ∀ ds h Q X, S_isInt ds h Q X → ds.length = 1 := fun _ _ _ _ ⟨_, _, e, _⟩ => by rw [e]; rfl
theorem mo_isInt : MoF S_isInt := fun _ _ _ _ _ _ hq _ ⟨a, b, e, o, q⟩ => ⟨a, b, e, o, hq _ _ q⟩
theorem ty_int {i : Int} {h : AH} : tyD h (.int i) = some "int" := rfl
def btw (x : D) (lo hi : Int) : Bool := match x with
  | .int i => decide (lo ≤ i) && decide (i ≤ hi)
  | _ => false
def S_isBtw : FSpec := fun ds h Q _ => ∃ x t lo hi, ds = [x, .int lo, .int hi] ∧ tyD h x = some t ∧ Q (.bl (btw x lo hi)) h
def wr_isBtw : WS := (wRet (wAndV (wCallP S_isInt 1 (fun ds _ => ds) (wCons (wVar 0) wNil)) (wChain (dCmpI fun i j => decide (i ≤ j)) (dCmpI fun i j => decide (i ≤ j)) (wVar 1) (wVar 0) (wVar 2))))
theorem ty_isint {h : AH} {x : D} (e : tyD h x = some "int") : ∃ i, x = .int i := by
  cases x with
  | int i => exact ⟨i, rfl⟩
  | ref a =>
    cases ea : h a with
    | none => simp [tyD, cur, ea] at e
    | some o => cases o <;> simp [tyD, cur, ea] at e
  | _ => simp [tyD, cur] at e
theorem ty_noint {h : AH} {x : D} {t : String} (e : tyD h x = some t) (n : t ≠ "int") {lo hi : Int} : btw x lo hi = false := by
  cases x with
  | int i => exact absurd (Option.some.inj e).symm n
  | _ => rfl
theorem pr_isBtw : ∀ ds h Q X, S_isBtw ds h Q X → wr_isBtw (endsD Q X) (startD 3 ds) h := by
  rintro ds h Q X ⟨x, t, lo, hi, rfl, e, q⟩
  show wr_isBtw (endsD Q X) [some x, some (.int lo), some (.int hi)] h
  simp only [wr_isBtw, u_asg, u_gN, u_ret, u_retN, u_skip, u_expr, u_ifs, u_c, u_op, u_neg, u_test, u_and, u_or, u_not, u_if, u_nil, u_cons, u_tup, u_lst, u_callP, u_call, u_b, u_chain, u_andV, u_addI, u_subI, u_mulI, u_divI, u_modI, u_powI, u_cmpI, u_eqI, u_eqS, u_eqB, u_abs, u_intI, u_intB, u_newT, u_newF, u_isN, u_notN, wVar, List.set_cons_zero, List.set_cons_succ, List.getElem?_cons_zero, List.getElem?_cons_succ, List.length_cons, List.length_nil, u_lc, u_for, u_r1, u_r2, u_r3, u_num, u_notV, u_yes, u_w0, u_w1]
  refine ⟨trivial, x, t, rfl, e, ?_⟩
  by_cases c : t = "int"
  · subst c
    obtain ⟨i, rfl⟩ := ty_isint e
    have q : Q (.bl (decide (lo ≤ i) && decide (i ≤ hi))) h := q
    simp only [decide_true, if_true, u_cmpI]
    by_cases d : lo ≤ i
    · rw [decide_eq_true d] at q ⊢
      exact fin_of q
    · rw [decide_eq_false d] at q ⊢
      exact fin_of q
  · rw [ty_noint e c] at q
    simp only [decide_eq_false c]
    exact fin_of q
theorem len_isBtw : ∀ ds h Q X, S_isBtw ds h Q X → ds.length = 3 := fun _ _ _ _ ⟨_, _, _, _, e, _⟩ => by rw [e]; rfl
theorem mo_isBtw : MoF S_isBtw := fun _ _ _ _ _ _ hq _ ⟨a, b, c, d, e, o, q⟩ => ⟨a, b, c, d, e, o, hq _ _ q⟩
def S_isRow : FSpec := fun ds h Q _ => ∃ r : Int × Int, ds = [pairD r] ∧ Q (.bl (decide (0 ≤ r.1) && decide (r.1 ≤ 1000000))) h
def wr_isRow : WS := (wSeq (wIfS (wOr (wNot (wTest (wB dIsi (wCons (wVar 0) (wCons (wC (.ty "tuple")) wNil))))) (wTest (wOp (dEq fun b => !b) (wB dLen (wCons (wVar 0) wNil)) (wC (.int 2))))) (wRet (wC (.bl false))) wSkip)
  (wRet (wAndV (wCallP S_isBtw 3 (fun ds _ => ds) (wCons (wOp dIx (wVar 0) (wC (.int 0))) (wCons (wC (.int 0)) (wCons (wC (.int 1000000)) wNil)))) (wCallP S_isInt 1 (fun ds _ => ds) (wCons (wOp dIx (wVar 0) (wC (.int 1))) wNil)))))
theorem pr_isRow : ∀ ds h Q X, S_isRow ds h Q X → wr_isRow (endsD Q X) (startD 1 ds) h := by
  rintro ds h Q X ⟨r, rfl, q⟩
  show wr_isRow (endsD Q X) [some (pairD r)] h
  unfold wr_isRow
  rw [u_seq]
  simp only [u_asg, u_gN, u_ret, u_retN, u_skip, u_expr, u_ifs, u_c, u_op, u_neg, u_test, u_and, u_or, u_not, u_if, u_nil, u_cons, u_tup, u_lst, u_callP, u_call, u_b, u_chain, u_andV, u_addI, u_subI, u_mulI, u_divI, u_modI, u_powI, u_cmpI, u_eqI, u_eqS, u_eqB, u_abs, u_intI, u_intB, u_newT, u_newF, u_isN, u_notN, wVar, List.set_cons_zero, List.set_cons_succ, List.getElem?_cons_zero, List.getElem?_cons_succ, List.length_cons, List.length_nil, u_lc, u_for, u_r1, u_r2, u_r3, u_num, u_notV, u_yes, u_w0, u_w1]
  refine ⟨_, _, "tuple", _, rfl, rfl, rfl, ?_⟩
  refine ⟨2, rfl, ?_⟩
  simp only [u_asg, u_gN, u_ret, u_retN, u_skip, u_expr, u_ifs, u_c, u_op, u_neg, u_test, u_and, u_or, u_not, u_if, u_nil, u_cons, u_tup, u_lst, u_callP, u_call, u_b, u_chain, u_andV, u_addI, u_subI, u_mulI, u_divI, u_modI, u_powI, u_cmpI, u_eqI, u_eqS, u_eqB, u_abs, u_intI, u_intB, u_newT, u_newF, u_isN, u_notN, wVar, List.set_cons_zero, List.set_cons_succ, List.getElem?_cons_zero, List.getElem?_cons_succ, List.length_cons, List.length_nil, u_lc, u_for, u_r1, u_r2, u_r3, u_num, u_notV, u_yes, u_w0, u_w1, ix_p0, ix_p1]
  refine ⟨trivial, _, _, _, _, rfl, ty_int, ?_⟩
  show (if (btw (.int r.1) 0 1000000) = true then _ else _)
  have e : btw (.int r.1) 0 1000000 = (decide (0 ≤ r.1) && decide (r.1 ≤ 1000000)) := rfl
  rw [e]
  by_cases c : (decide (0 ≤ r.1) && decide (r.1 ≤ 1000000)) = true
  · rw [if_pos c]
    rw [c] at q
    exact ⟨trivial, _, _, rfl, ty_int, fin_of q⟩
  · rw [if_neg c]
    rw [eq_false_of_ne_true c] at q
    exact fin_of q
theorem len_isRow : ∀ ds h Q X, S_isRow ds h Q X → ds.length = 1 := fun _ _ _ _ ⟨_, e, _⟩ => by rw [e]; rfl
theorem mo_isRow : MoF S_isRow := fun _ _ _ _ _ _ hq _ ⟨a, e, q⟩ => ⟨a, e, hq _ _ q⟩
end DL
namespace DL
open PySem PySem.Spec L2 C8
section
variable {X : Cx} {E : XK} {tg l : Expr} {wa : WE}
/-- a list or a tuple, walked -/
def iAny (wa : WE) : WI := fun ρ h R X => wa ρ h (fun x h1 => match x with
  | .tup xs => R xs (fun _ => True) h1
  | .tpl xs => R xs (fun _ => True) h1
  | .lst xs => R xs (fun _ => True) h1
  | .ref a => ∃ xs, h1 a = some (.lst xs) ∧ R xs (fun h => h a = some (.lst xs)) h1
  | _ => False) X
theorem u_any {a : WE} {ρ : EnvD} {h : AH} {X : KX} {R : List D → (AH → Prop) → AH → Prop} : iAny a ρ h R X = a ρ h (fun x h1 => match x with
  | .tup xs => R xs (fun _ => True) h1
  | .tpl xs => R xs (fun _ => True) h1
  | .lst xs => R xs (fun _ => True) h1
  | .ref a => ∃ xs, h1 a = some (.lst xs) ∧ R xs (fun h => h a = some (.lst xs)) h1
  | _ => False) X := rfl
/-- a sequence that does not change -/
def IsS (d : D) (xs : List D) : Prop := d = .tup xs ∨ d = .tpl xs ∨ d = .lst xs
theorem IsS.iter {d : D} {xs : List D} (t : IsS d xs) {ρ : EnvD} {h : AH} {X : KX} {i : Nat} {R : List D → (AH → Prop) → AH → Prop} (e : ρ[i]? = some (some d)) (k : R xs (fun _ => True) h) : iAny (wVar i) ρ h R X := by
  rw [u_any, u_var e]
  rcases t with rfl | rfl | rfl <;> exact k
end
/-! ### isinstance of an own class -/
structure IsiC (K : PySem.W.Frag) (C : Addr) : Prop where
  cl : Cls K C
  ha : PySem.W.findIn K (.ref C) "__class__" = some (some (.builtin "object.__class__"))
  hn : PySem.W.specialIn K (.builtin "object.__class__") "__get__" = some (some (.builtin "getset_descriptor.__get__"))
  ht : PySem.W.takesIn K (.builtin "object.__class__") = some true
  hm : PySem.W.mroIn K C (.type "object") = some true
theorem cst_ref {K : PySem.W.Frag} {mg : Str → Option Value} {x : Str} {C : Addr} (h : mg x = some (.ref C)) : Cst K mg x (.ref C) := ⟨⟨.ref C, _, h, rfl, fun _ => .ref C⟩⟩
section
variable {X : Cx}
def dIsiO (C : Addr) (ds : List D) (h : AH) (Q : KD) : Prop := ∃ x, ds = [x, .ref C] ∧ isI C x h ∧ Q (.bl true) h
theorem dIsiO_ok {C : Addr} (c : IsiC X.K C) : CaD X (.builtin "isinstance") (dIsiO C) where
  ex := ⟨_, call_isi, fun {F h H ds vs Q} S r q => by
    obtain ⟨x, rfl, ⟨fs, ei⟩, q⟩ := q
    obtain ⟨v, w, rfl, r1, r2⟩ := r.two
    cases r2
    obtain ⟨a, dx, us, rfl, ha, _⟩ := S.insOf r1 ei
    exact ⟨_, _, .ref C, .ref C, true, rfl, .own C, .base (.ins ha c.cl c.ha c.hn c.ht c.hm), by unfold PySem.W.kitOne; rw [if_pos (by simp)], q.at S (.bl _)⟩⟩
  mo := fun {ds h Q Q'} hq ⟨x, e, i, q⟩ => ⟨x, e, i, hq _ _ q⟩
end
end DL
namespace DL
open PySem PySem.Spec L2 C8
end DL
namespace L2
open PySem PySem.Spec PyProof.Rows
mutual
/-- a pattern of texts: none takes all -/
inductive PatOk : Pattern → Option (List Str) → Prop
  | val {w : Str} {j p q} : PatOk (.MatchValue (.Constant (.str w) j p) q) (some [w])
  | or {ps : List Pattern} {ws : List Str} {q} (h : PatsOk ps ws) : PatOk (.MatchOr ps q) (some ws)
  | any {q} : PatOk (.MatchAs none none q) none
inductive PatsOk : List Pattern → List Str → Prop
  | nil : PatsOk [] []
  | cons {w : Str} {j p q} {ps : List Pattern} {ws : List Str} (h : PatsOk ps ws) : PatsOk (.MatchValue (.Constant (.str w) j p) q :: ps) (w :: ws)
end
def takesW : Option (List Str) → Str → Bool
  | none, _ => true
  | some ws, x => ws.any fun w => decide (x = w)
inductive CasesOk (X : Cx) : List MatchCase → List (Option (List Str) × TS) → Prop
  | nil : CasesOk X [] []
  | cons {p : Pattern} {o : Option (List Str)} {body : List Stmt} {t : TS} {rest : List MatchCase} {l : List (Option (List Str) × TS)} (hp : PatOk p o) (hb : PSs X body t) (r : CasesOk X rest l) : CasesOk X (⟨p, none, body⟩ :: rest) ((o, t) :: l)
end L2
namespace DL
open PySem PySem.Spec L2
/-- the cases of a match over a text -/
def pickM : List (Option (List Str) × WS) → Str → WS
  | [], _ => wSkip
  | (o, s) :: r, w => fun D ρ h => if takesW o w = true then s D ρ h else pickM r w D ρ h
section
variable {X : Cx} {E : XK} {e : Expr} {we : WE} {pos : Pos}
inductive ACs (X : Cx) (E : XK) : List MatchCase → List (Option (List Str) × WS) → Prop
  | nil : ACs X E [] []
  | cons {p : Pattern} {o : Option (List Str)} {body : List Stmt} {t : WS} {rest : List MatchCase} {l : List (Option (List Str) × WS)} (hp : PatOk p o) (hb : ASs X E body t) (r : ACs X E rest l) : ACs X E (⟨p, none, body⟩ :: rest) ((o, t) :: l)
theorem ACs.cs {cs : List MatchCase} {l : List (Option (List Str) × WS)} (h : ACs X E cs l) : CasesOk X cs (l.map fun x => (x.1, tS X.K E x.2)) := by
  induction h with
  | nil => exact .nil
  | cons hp hb r ih => exact .cons hp hb.run ih
theorem ACs.mo {cs : List MatchCase} {l : List (Option (List Str) × WS)} (h : ACs X E cs l) : ∀ w, MoS (pickM l w) := by
  induction h with
  | nil => intro w D D' ρ h l q; exact l.nx _ _ q
  | @cons p o body t rest l hp hb r ih =>
    intro w D D' ρ h le q
    unfold pickM at q ⊢
    by_cases c : takesW o w = true
    · rw [if_pos c] at q ⊢; exact hb.mo _ _ _ _ le q
    · rw [if_neg c] at q ⊢; exact ih w _ _ _ _ le q
end
end DL
namespace DL
open PySem PySem.Spec L2 C8
/-! ### two ways to read one thing (an instance of one class or of another) -/
def wOrE (a b : WE) : WE := fun ρ h Q X => a ρ h Q X ∨ b ρ h Q X
def wOrS (a b : WS) : WS := fun D ρ h => a D ρ h ∨ b D ρ h
section
variable {X : Cx} {E : XK} {e : Expr} {st : Stmt} {a b : WE} {s1 s2 : WS}
theorem AE.or (h1 : AE X E e a) (h2 : AE X E e b) : AE X E e (wOrE a b) := by
  refine ⟨⟨fun pins s σ H Q I h => ?_⟩, fun ρ h Q Q' X X' hq hx q => q.elim (fun q => .inl (h1.mo _ _ _ _ _ _ hq hx q)) (fun q => .inr (h2.mo _ _ _ _ _ _ hq hx q))⟩
  obtain ⟨F, ρ, g, S, R, q⟩ := h
  rcases q with q | q
  · exact h1.run.run pins s σ H Q I ⟨F, ρ, g, S, R, q⟩
  · exact h2.run.run pins s σ H Q I ⟨F, ρ, g, S, R, q⟩
theorem AS.or (h1 : AS X E st s1) (h2 : AS X E st s2) : AS X E st (wOrS s1 s2) := by
  refine ⟨⟨fun pins s σ H D I h => ?_⟩, fun D D' ρ h l q => q.elim (fun q => .inl (h1.mo _ _ _ _ l q)) (fun q => .inr (h2.mo _ _ _ _ l q))⟩
  obtain ⟨F, ρ, g, S, R, q⟩ := h
  rcases q with q | q
  · exact h1.run.run pins s σ H D I ⟨F, ρ, g, S, R, q⟩
  · exact h2.run.run pins s σ H D I ⟨F, ρ, g, S, R, q⟩
end
/-! ### starred parts -/
end DL
namespace DL
open PySem PySem.Spec L2 C8
/-- where the package's classes stand -/
structure Ad where
  Program : Addr := 0
  LineProgram : Addr := 0
  Walk : Addr := 0
  Ledger : Addr := 0
  Lengths : Addr := 0
  Kind : Addr := 0
  Machine : Addr := 0
  LateMachine : Addr := 0
  Trial : Addr := 0
  Group : Addr := 0
  Ground : Addr := 0
  BodyReader : Addr := 0
  Meter : Addr := 0
  Change : Addr := 0
  Desk : Addr := 0
  Account : Addr := 0
  EchoError : Addr := 0
  SizeError : Addr := 0
  AbsentError : Addr := 0
  InvalidProgram : Addr := 0
  InvalidMode : Addr := 0
  InvalidNumber : Addr := 0
  InvalidCapacity : Addr := 0
  InvalidRow : Addr := 0
  InvalidTable : Addr := 0
  InvalidAccount : Addr := 0
  InvalidReading : Addr := 0
  InvalidBound : Addr := 0
  InvalidText : Addr := 0
  Lossy : Addr := 0
  DifferentModes : Addr := 0
  Contradiction : Addr := 0
  UnknownCommand : Addr := 0
  TooLarge : Addr := 0
  TooLong : Addr := 0
  TooManyProcesses : Addr := 0
  Full : Addr := 0
  NoPlace : Addr := 0
  NoPoint : Addr := 0
  NoReading : Addr := 0
  NoName : Addr := 0
  NothingToUndo : Addr := 0
  Finished : Addr := 0
  t0 : Addr := 0
  t1 : Addr := 0
  t2 : Addr := 0
  t3 : Addr := 0
  t4 : Addr := 0
  t5 : Addr := 0
  t6 : Addr := 0
  t7 : Addr := 0
  t8 : Addr := 0
  t9 : Addr := 0
  t10 : Addr := 0
  t11 : Addr := 0
  t12 : Addr := 0
  t13 : Addr := 0
  t14 : Addr := 0
  t15 : Addr := 0
end DL
namespace PK
open PySem PySem.Spec L2 C8 DL
abbrev N_is_integer : List Str := ["value"]
abbrev N_is_between : List Str := ["value", "least", "most"]
end PK
namespace PK
open PySem PySem.Spec L2 C8 DL
/-! ### things: data of all kinds, no dict but {} -/
def bare (w : Str) : Bool := inD (.str w) [.str "line", .str "flush", .str "drop", .str "both", .str "exit", .str "quit"]
def isTup : D → Bool
  | .tup _ => true
  | _ => false
/-- the head of an action: its own judgement -/
def headL : List D → Bool
  | [] => false
  | .str w :: ps =>
    if bare w = true then ps.isEmpty
    else if w = ("write" : Str) then (match ps with
      | [x] => btw x 1 2000
      | _ => false)
    else if w = ("fork" : Str) then (match ps with
      | [x] => isTup x
      | _ => false)
    else if w = ("repeat" : Str) then (match ps with
      | [x, y] => btw x 0 300 && isTup y
      | _ => false)
    else false
  | _ => false
def headD : D → Bool
  | .tup xs => headL xs
  | _ => false
abbrev S_is_integer (z : Ad) : FSpec := S_isInt
abbrev S_is_between (z : Ad) : FSpec := S_isBtw
/-! ### actions and bodies -/
inductive Ac where
  | bare (w : Str) | write (n : Nat) | fork (b : List Ac) | rep (n : Nat) (b : List Ac)
mutual
def enc : Ac → D
  | .bare w => .tup [.str w]
  | .write n => .tup [.str "write", .int n]
  | .fork b => .tup [.str "fork", .tup (encs b)]
  | .rep n b => .tup [.str "repeat", .int n, .tup (encs b)]
def encs : List Ac → List D
  | [] => []
  | a :: r => enc a :: encs r
end
/-! .. a repeat of none counted as one -/
/-! all actions with their places -/
/-! the words, children behind their action -/
/-! ### programs: of the one class or the other -/
def clsOf (z : Ad) (lm : Bool) : Addr := if lm = true then z.LineProgram else z.Program
def prog (z : Ad) (lm : Bool) (b : List Ac) : D := .ob (clsOf z lm) [("held", .tup (encs b))]
/-! ### the walk -/
end PK
namespace PK
open PySem PySem.Spec L2 C8 DL
/-! ### the readings -/
def w_is_integer (z : Ad) : WS := (wRet (wAndV (wB dIsi (wCons (wVar 0) (wCons (wC (.ty "int")) wNil))) (wNotV (wB dIsi (wCons (wVar 0) (wCons (wC (.ty "bool")) wNil))))))
def w_is_between (z : Ad) : WS := (wRet (wAndV (wCallP (S_is_integer z) 1 (fun ds _ => ds) (wCons (wVar 0) wNil)) (wChain (dCmpI fun i j => decide (i ≤ j)) (dCmpI fun i j => decide (i ≤ j)) (wVar 1) (wVar 0) (wVar 2))))
end PK
namespace PK
open PySem PySem.Spec L2 C8 DL
theorem p_is_integer (z : Ad) : ∀ ds h Q X, S_is_integer z ds h Q X → w_is_integer z (endsD Q X) (startD 1 ds) h := pr_isInt
theorem len_is_integer (z : Ad) : ∀ ds h Q X, S_is_integer z ds h Q X → ds.length = 1 := len_isInt
theorem mo_is_integer (z : Ad) : MoF (S_is_integer z) := mo_isInt
theorem p_is_between (z : Ad) : ∀ ds h Q X, S_is_between z ds h Q X → w_is_between z (endsD Q X) (startD 3 ds) h := pr_isBtw
theorem len_is_between (z : Ad) : ∀ ds h Q X, S_is_between z ds h Q X → ds.length = 3 := len_isBtw
theorem mo_is_between (z : Ad) : MoF (S_is_between z) := mo_isBtw
/-! things -/
/-! is_head -/
theorem big_size : 100000 ≤ sizeLine := by decide
end PK
namespace PK
open PySem PySem.Spec L2 C8 DL
/-! ### loops over what is left -/
/-! ### typed lists -/
end PK
namespace PK
open PySem PySem.Spec L2 C8 DL
end PK
namespace PK
open PySem PySem.Spec L2 C8 DL
end PK
namespace PK
open PySem PySem.Spec L2 C8 DL
end PK
namespace PK
open PySem PySem.Spec L2 C8 DL
end PK
namespace PK
open PySem PySem.Spec L2 C8 DL
theorem u_truth {a : WE} {ρ : EnvD} {h : AH} {Q : Bool → AH → Prop} {X : KX} : wTruth a ρ h Q X = a ρ h (fun x h1 => ∃ k, truD h1 x = some k ∧ Q k h1) X := rfl
end PK
namespace PK
open PySem PySem.Spec L2 C8 DL
end PK
namespace PK
open PySem PySem.Spec L2 C8 DL
end PK
namespace PK
open PySem PySem.Spec L2 C8 DL
end PK
namespace PK
open PySem PySem.Spec L2 C8 DL
end PK
namespace PK
open PySem PySem.Spec L2 C8 DL
/-! ### more for families of laws -/
theorem at_memq {xs : List D} {v : Int} (h0 : 0 ≤ v) (h1 : v < xs.length) : ∃ x ∈ xs, atI xs v = some x := by
  obtain ⟨k, rfl⟩ := Int.eq_ofNat_of_zero_le h0
  have hk : k < xs.length := by omega
  exact ⟨xs[k], List.getElem_mem hk, by rw [atI_nat hk]; exact List.getElem?_eq_getElem hk⟩
end PK
namespace PK
open PySem PySem.Spec L2 C8 DL
/-! ### bodies and words may be shown -/
structure Rps (xs : List D) (k n : Nat) : Prop where
  da : dats xs = true
  sh : PyData.showableAll (pds xs) = true
  de : PyData.depthAll (pds xs) ≤ k
  le : ((PyData.shownAll (pds xs)).map fun t => t.length + 2).sum ≤ n
theorem Rps.up {xs : List D} {k n l m : Nat} (r : Rps xs k n) (h1 : k ≤ l) (h2 : n ≤ m) : Rps xs l m := ⟨r.da, r.sh, Nat.le_trans r.de h1, Nat.le_trans r.le h2⟩
theorem text_same {f : Bool → Bool} {s : Str} {h : AH} {Q : KD} (q : Q (.bl (f true)) h) : dEq f (.str s) (.str s) h Q := by
  rw [u_eqS, decide_eq_true rfl]; exact q
end PK
namespace DL
open PySem PySem.Spec L2 C8
/-! ### the ledger's methods -/
def InR (es : Prs) : Prop := ∀ e ∈ es, 0 ≤ e.1 ∧ e.1 ≤ 1000000
theorem InR.append {es fs : Prs} (a : InR es) (b : InR fs) : InR (es ++ fs) := fun e he => by
  rcases List.mem_append.mp he with h | h
  · exact a e h
  · exact b e h
theorem Led.inR {es rows : Prs} (h : Led es (amt rows)) (r : InR rows) : InR es := fun e he => by
  obtain ⟨h1, h2⟩ := (h.mem e.1 e.2).mp he
  have : hasI rows e.1 = true := by
    cases c : hasI rows e.1 with
    | true => rfl
    | false =>
      exfalso
      have : amt rows e.1 = 0 := by
        clear h he h1 h2 r
        induction rows with
        | nil => rfl
        | cons x rows ih =>
          have c : (decide (x.1 = e.1) || hasI rows e.1) = false := c
          rw [Bool.or_eq_false_iff] at c
          rw [amt_cons, if_neg (by simpa using c.1), ih c.2]; rfl
      omega
  obtain ⟨v, m⟩ := hasI_iff.mp this
  exact r (e.1, v) m
def S_init (C : Addr) : FSpec := fun ds h Q _ => ∃ (a : Addr) (rows : Prs), ds = [.ref a, .tup (rows.map pairD)] ∧ h a = some (.ins C []) ∧ InR rows ∧ rows.length ≤ 10000 ∧
  ∀ es, Led es (amt rows) → es.length ≤ rows.length → Q .non (up h a (.ins C [("amounts", .dK (toK es))]))
def wr_init (C : Addr) : WS := (wSeq (wAsg wDnew (gN 2))
  (wSeq (wFor (iNum (wCons (wVar 1) wNil)) (gT 2 (gsCons (gN 3) (gsCons (gN 4) gsNil))) (wSeq (wIfS (wNot (wTest (wCallP S_isRow 1 (fun ds _ => ds) (wCons (wVar 4) wNil)))) wNever wSkip)
  (wDput (wVar 2) (wOp dIx (wVar 4) (wC (.int 0))) (wOp (dAdd false) (wGet2 (wVar 2) (wOp dIx (wVar 4) (wC (.int 0))) (wC (.int 0))) (wOp dIx (wVar 4) (wC (.int 1)))))))
  (wSetF C "amounts" (wVar 0) (wDc false (iSeq (wB (dSortD false) (wCons (wVar 2) wNil))) (gN 5) (wTest (wOp (dEq fun b => !b) (wDGet (wVar 2) (wVar 5)) (wC (.int 0)))) (wVar 5) (wDGet (wVar 2) (wVar 5)) [5]))))
theorem big_size : 100000 ≤ sizeLine := by decide
theorem get_pairs {rows : Prs} {i : Nat} {y : D} (h : (rows.map pairD)[i]? = some y) : ∃ r, rows[i]? = some r ∧ y = pairD r ∧ i < rows.length := by
  rw [List.getElem?_map] at h
  cases e : rows[i]? with
  | none => rw [e] at h; cases h
  | some r => rw [e] at h; cases h; exact ⟨r, rfl, rfl, (List.getElem?_eq_some_iff.mp e).1⟩
theorem amt_take {rows : Prs} {i : Nat} {r : Int × Int} (h : rows[i]? = some r) {k : Int} : amt (rows.take (i + 1)) k = amt (rows.take i) k + if r.1 = k then r.2 else 0 := by
  rw [List.take_add_one, h, Option.toList_some, amt_append, amt_cons, amt_nil, Int.add_zero]
theorem pr_init (C : Addr) : ∀ ds h Q X, S_init C ds h Q X → wr_init C (endsD Q X) (startD 6 ds) h := by
  rintro ds h Q X ⟨a, rows, rfl, ha, hr, hl, q⟩
  show wr_init C (endsD Q X) [some (.ref a), some (.tup (rows.map pairD)), none, none, none, none] h
  have big := big_size
  unfold wr_init
  rw [u_seq]
  simp only [u_asg, u_gN, u_ret, u_retN, u_skip, u_expr, u_ifs, u_c, u_op, u_neg, u_test, u_and, u_or, u_not, u_if, u_nil, u_cons, u_tup, u_lst, u_callP, u_call, u_b, u_chain, u_andV, u_addI, u_subI, u_mulI, u_divI, u_modI, u_powI, u_cmpI, u_eqI, u_eqS, u_eqB, u_abs, u_intI, u_intB, u_newT, u_newF, u_isN, u_notN, wVar, List.set_cons_zero, List.set_cons_succ, List.getElem?_cons_zero, List.getElem?_cons_succ, List.length_cons, List.length_nil, u_lc, u_for, u_r1, u_r2, u_r3, u_num, u_notV, u_yes, u_w0, u_w1, u_dnew]
  intro p hp
  have pa : a ≠ p := by rintro rfl; rw [ha] at hp; cases hp
  rw [u_seq]
  simp only [u_asg, u_gN, u_ret, u_retN, u_skip, u_expr, u_ifs, u_c, u_op, u_neg, u_test, u_and, u_or, u_not, u_if, u_nil, u_cons, u_tup, u_lst, u_callP, u_call, u_b, u_chain, u_andV, u_addI, u_subI, u_mulI, u_divI, u_modI, u_powI, u_cmpI, u_eqI, u_eqS, u_eqB, u_abs, u_intI, u_intB, u_newT, u_newF, u_isN, u_notN, wVar, List.set_cons_zero, List.set_cons_succ, List.getElem?_cons_zero, List.getElem?_cons_succ, List.length_cons, List.length_nil, u_lc, u_for, u_r1, u_r2, u_r3, u_num, u_notV, u_yes, u_w0, u_w1]
  refine loop_go (fun i ρ h' => ∃ (es : Prs) (b c : Option D), ρ = [some (.ref a), some (.tup (rows.map pairD)), some (.ref p), b, c, none] ∧ h' = up h p (.dK (toK es)) ∧ (es.map (·.1)).Nodup ∧ (∀ k, getI es k = amt (rows.take i) k) ∧ es.length ≤ i) ⟨[], _, _, rfl, rfl, List.nodup_nil, fun k => rfl, Nat.le_refl _⟩ (fun _ _ _ _ => trivial) ?_ ?_
  · rintro i x _ _ K hi ⟨es, b, c, rfl, rfl, nd, hg, le⟩ k
    obtain ⟨y, hy, rfl⟩ := numD_get hi
    obtain ⟨r, hr1, rfl, li⟩ := get_pairs hy
    have rr := hr r (List.mem_of_getElem? hr1)
    refine ⟨_, rfl, rfl, _, _, rfl, _, _, rfl, rfl, ?_⟩
    simp only [u_asg, u_gN, u_ret, u_retN, u_skip, u_expr, u_ifs, u_c, u_op, u_neg, u_test, u_and, u_or, u_not, u_if, u_nil, u_cons, u_tup, u_lst, u_callP, u_call, u_b, u_chain, u_andV, u_addI, u_subI, u_mulI, u_divI, u_modI, u_powI, u_cmpI, u_eqI, u_eqS, u_eqB, u_abs, u_intI, u_intB, u_newT, u_newF, u_isN, u_notN, wVar, List.set_cons_zero, List.set_cons_succ, List.getElem?_cons_zero, List.getElem?_cons_succ, List.length_cons, List.length_nil, u_lc, u_for, u_r1, u_r2, u_r3, u_num, u_notV, u_yes, u_w0, u_w1]
    refine ⟨rfl, r, rfl, ?_⟩
    rw [decide_eq_true rr.1, decide_eq_true rr.2]
    simp only [Bool.and_self, Bool.not_true, Bool.false_eq_true, if_false, u_dput, u_get2, u_asg, u_gN, u_ret, u_retN, u_skip, u_expr, u_ifs, u_c, u_op, u_neg, u_test, u_and, u_or, u_not, u_if, u_nil, u_cons, u_tup, u_lst, u_callP, u_call, u_b, u_chain, u_andV, u_addI, u_subI, u_mulI, u_divI, u_modI, u_powI, u_cmpI, u_eqI, u_eqS, u_eqB, u_abs, u_intI, u_intB, u_newT, u_newF, u_isN, u_notN, wVar, List.set_cons_zero, List.set_cons_succ, List.getElem?_cons_zero, List.getElem?_cons_succ, List.length_cons, List.length_nil, u_lc, u_for, u_r1, u_r2, u_r3, u_num, u_notV, u_yes, u_w0, u_w1, ix_p0, ix_p1]
    refine ⟨by simp [dkOf], toK es, _, by simp [dkOf], rfl, ?_⟩
    rw [val_getD, u_addI]
    refine ⟨p, toK es, _, rfl, up_same, rfl, by rw [toK_len]; omega, ?_⟩
    rw [up_up, putD_toK]
    refine k _ _ ⟨_, _, _, rfl, rfl, nodup_put nd, fun j => ?_, Nat.le_trans len_put (by omega)⟩
    rw [getI_put, amt_take hr1]
    by_cases e : j = r.1
    · subst e; rw [if_pos rfl, if_pos rfl, hg]
    · rw [if_neg e, if_neg (fun z => e z.symm), hg, Int.add_zero]
  · rintro _ _ ⟨es, b, c, rfl, rfl, nd, hg, le⟩
    rw [numD_len, List.length_map] at hg le
    rw [List.take_length] at hg
    simp only [u_setF, u_dc, u_seqi, u_asg, u_gN, u_ret, u_retN, u_skip, u_expr, u_ifs, u_c, u_op, u_neg, u_test, u_and, u_or, u_not, u_if, u_nil, u_cons, u_tup, u_lst, u_callP, u_call, u_b, u_chain, u_andV, u_addI, u_subI, u_mulI, u_divI, u_modI, u_powI, u_cmpI, u_eqI, u_eqS, u_eqB, u_abs, u_intI, u_intB, u_newT, u_newF, u_isN, u_notN, wVar, List.set_cons_zero, List.set_cons_succ, List.getElem?_cons_zero, List.getElem?_cons_succ, List.length_cons, List.length_nil, u_lc, u_for, u_r1, u_r2, u_r3, u_num, u_notV, u_yes, u_w0, u_w1]
    refine ⟨.ref p, toK es, es.map (·.1), rfl, by simp [dkOf], toK_keys es, fun ys hp1 hp2 => ?_⟩
    rw [u_newF]
    intro p2 hp2'
    have ndy : ys.Nodup := hp1.nodup_iff.mpr nd
    have ly : ys.length = es.length := by rw [hp1.length_eq, List.length_map]
    have p2p : p2 ≠ p := by rintro rfl; simp at hp2'
    have hp2h : h p2 = none := by rw [up_ne p2p] at hp2'; exact hp2'
    refine dc_pure (pick0 (getI es)) (fun _ => trivial) (by rw [List.length_map]; omega) ?_ ?_
    · intro x acc K hx la k
      obtain ⟨y, hy, rfl⟩ := List.mem_map.mp hx
      have my : y ∈ es.map (·.1) := hp1.mem_iff.mp hy
      rw [u_gN]
      simp only [u_asg, u_gN, u_ret, u_retN, u_skip, u_expr, u_ifs, u_c, u_op, u_neg, u_test, u_and, u_or, u_not, u_if, u_nil, u_cons, u_tup, u_lst, u_callP, u_call, u_b, u_chain, u_andV, u_addI, u_subI, u_mulI, u_divI, u_modI, u_powI, u_cmpI, u_eqI, u_eqS, u_eqB, u_abs, u_intI, u_intB, u_newT, u_newF, u_isN, u_notN, wVar, List.set_cons_zero, List.set_cons_succ, List.getElem?_cons_zero, List.getElem?_cons_succ, List.length_cons, List.length_nil, u_lc, u_for, u_r1, u_r2, u_r3, u_num, u_notV, u_yes, u_w0, u_w1, u_dget]
      have gp : (up (up h p (.dK (toK es))) p2 (.dK acc)) p = some (.dK (toK es)) := by rw [up_ne p2p.symm]; exact up_same
      refine ⟨toK es, _, _, dk_ref gp, rfl, val_some my, ?_⟩
      rw [u_eqI]
      by_cases z : getI es y = 0
      · rw [decide_eq_true z]
        simp only [Bool.not_true, Bool.false_eq_true, if_false]
        have : dstep (pick0 (getI es)) acc (.int y) = acc := by unfold dstep pick0; simp only [z, ne_eq, not_true, if_false]
        rw [this] at k; exact k
      · rw [decide_eq_false z]
        simp only [Bool.not_false, if_true]
        refine ⟨toK es, _, _, dk_ref gp, rfl, val_some my, acc, _, rfl, up_same, la, ?_⟩
        rw [up_up]
        have : dstep (pick0 (getI es)) acc (.int y) = putD acc (Sum.inl y) (.int (getI es y)) := by unfold dstep pick0; simp only [ne_eq, z, not_false_eq_true, if_true]
        rw [this] at k; exact k
    · have e := fold_keyed (getI es) ys [] ndy (fun _ _ => rfl)
      have e : (ys.map D.int).foldl (dstep (pick0 (getI es))) [] = toK (keyed (getI es) ys) := e
      rw [e]
      refine endKF hp2' ?_
      refine ⟨a, [], rfl, by rw [up_ne pa]; exact ha, by decide, ?_⟩
      have led : Led (keyed (getI es) ys) (amt rows) := by
        have := keyed_led (A := getI es) hp2 ndy fun k hk => hp1.mem_iff.mpr (by
          cases c : hasI es k with
          | true => exact hasI_keys.mp c
          | false => exact absurd (getI_no c) hk)
        exact this.of_amt hg
      refine fin_sub (g := up h a (.ins C [("amounts", .dK (toK (keyed (getI es) ys)))])) (fun b o z => ?_) (q _ led (by have := keyed_len (A := getI es) (ys := ys); omega))
      by_cases c : b = a
      · subst c; rw [up_same] at z ⊢; exact z
      · rw [up_ne c] at z ⊢
        rw [up_ne (by rintro rfl; rw [hp] at z; cases z)]; exact z
theorem len_init (C : Addr) : ∀ ds h Q X, S_init C ds h Q X → ds.length = 2 := fun _ _ _ _ ⟨_, _, e, _⟩ => by rw [e]; rfl
theorem mo_init (C : Addr) : MoF (S_init C) := fun _ _ _ _ _ _ hq _ ⟨a, b, e, o1, o2, o3, q⟩ => ⟨a, b, e, o1, o2, o3, fun es h1 h2 => hq _ _ (q es h1 h2)⟩
def S_rows (C : Addr) : FSpec := fun ds h Q _ => ∃ es : Prs, ds = [ledD C es] ∧ Q (.tup (es.map pairD)) h
def wr_rows (C : Addr) : WS := (wRet (wTupIt (wFld C "amounts" (wVar 0))))
theorem pr_rows (C : Addr) : ∀ ds h Q X, S_rows C ds h Q X → wr_rows C (endsD Q X) (startD 1 ds) h := by
  rintro ds h Q X ⟨es, rfl, q⟩
  show wr_rows C (endsD Q X) [some (ledD C es)] h
  simp only [wr_rows, u_asg, u_gN, u_ret, u_retN, u_skip, u_expr, u_ifs, u_c, u_op, u_neg, u_test, u_and, u_or, u_not, u_if, u_nil, u_cons, u_tup, u_lst, u_callP, u_call, u_b, u_chain, u_andV, u_addI, u_subI, u_mulI, u_divI, u_modI, u_powI, u_cmpI, u_eqI, u_eqS, u_eqB, u_abs, u_intI, u_intB, u_newT, u_newF, u_isN, u_notN, wVar, List.set_cons_zero, List.set_cons_succ, List.getElem?_cons_zero, List.getElem?_cons_succ, List.length_cons, List.length_nil, u_lc, u_for, u_r1, u_r2, u_r3, u_num, u_notV, u_yes, u_w0, u_w1, u_tupIt, u_fld]
  refine ⟨_, _, rfl, rfl, _, rfl, ?_⟩
  rw [toK_kv]
  exact fin_of q
theorem len_rows (C : Addr) : ∀ ds h Q X, S_rows C ds h Q X → ds.length = 1 := fun _ _ _ _ ⟨_, e, _⟩ => by rw [e]; rfl
theorem mo_rows (C : Addr) : MoF (S_rows C) := fun _ _ _ _ _ _ hq _ ⟨a, e, q⟩ => ⟨a, e, hq _ _ q⟩
/-- a call C(*rows) or C(row, ..) -/
theorem make_led {C a : Addr} {rows : Prs} {h : AH} {P : KD} {X : KX} {ds : List D} (hd : ds = rows.map pairD) (ha : h a = none) (hr : InR rows) (hl : rows.length ≤ 10000) (q : ∀ es, Led es (amt rows) → InR es → es.length ≤ rows.length → P .non (up h a (.ins C [("amounts", .dK (toK es))]))) :
    starS 1 (S_init C) (.ref a :: ds) (up h a (.ins C [])) P X := by
  subst hd
  have big := big_size
  refine ⟨by simp, by simp; omega, a, rows, rfl, up_same, hr, hl, fun es h1 h2 => ?_⟩
  rw [up_up]
  exact q es h1 (h1.inR hr) h2
theorem made {C a : Addr} {fs : List (Str × D)} {h : AH} {R : List (Str × D) → AH → Prop} (ha : h a = none) (q : R fs h) : (D.non = .non ∧ ∃ gs, (up h a (.ins C fs)) a = some (.ins C gs) ∧ R gs (rm (up h a (.ins C fs)) a)) :=
  ⟨rfl, fs, up_same, by rw [rm_up, rm_none ha]; exact q⟩
/-! ### the laws' own way to a ledger -/
/-- a tuple, its object known or not -/
def IsT (d : D) (xs : List D) : Prop := d = .tup xs ∨ d = .tpl xs
theorem IsT.iter {d : D} {xs : List D} (t : IsT d xs) {ρ : EnvD} {h : AH} {X : KX} {i : Nat} {R : List D → (AH → Prop) → AH → Prop} (e : ρ[i]? = some (some d)) (k : R xs (fun _ => True) h) : iTupD (wVar i) ρ h R X := by
  rw [u_tupi, u_var e]
  rcases t with rfl | rfl
  · exact k
  · exact k
end DL
namespace DL
open PySem PySem.Spec L2 C8 PyProof.Rows
/-! ### tuple * int, up to 16,000,000 items -/
def rRepTW (K : PySem.W.Frag) : R2 := fun x y H Q => ∃ l k xs, x = .ref l ∧ y = .int k ∧ SqT K H l xs ∧ 0 < xs.length ∧ 2 ≤ k ∧ k ≤ 16000 ∧ xs.length ≤ 1000 ∧ ∀ p, H p = none → Q (.ref p) (upd H p (.tup (List.replicate k.toNat xs).flatten))
theorem rep_small {n : Nat} {k : Int} (h0 : 0 < n) (h1 : 2 ≤ k) (h2 : k ≤ 16000) (h3 : n ≤ 1000) : ((n : Nat) : Int) * k ≤ 16000000 ∧ k.toNat * n ≤ 16000000 := by
  have a1 : ((n : Nat) : Int) * k ≤ 1000 * k := Int.mul_le_mul_of_nonneg_right (by omega) (by omega)
  have a2 : k.toNat * n ≤ 16000 * 1000 := Nat.mul_le_mul (by omega) h3
  exact ⟨by omega, by omega⟩
section
variable {X : Cx}
theorem op_repTW : OpR X (binaryOp .Mult) (rRepTW X.K) := by
  intro pins s σ H x y v u Q I rx ry ⟨l, k, xs, ex, ey, hT, hne, h1, h2, h3, q⟩
  subst ex ey
  cases rx
  obtain ⟨t, rfl⟩ := ry
  obtain ⟨its, r, tp, hs⟩ := I.tuple hT
  obtain ⟨o, ho, hc, n, hd⟩ := tp
  obtain ⟨cls, dd, data, sl⟩ := o
  obtain rfl : cls = .type "tuple" := hc
  obtain rfl : data = .seq its.toArray n := hd
  have len : its.length = xs.length := r.length.symm
  obtain ⟨m1, m2⟩ := rep_small hne h1 h2 h3
  have size : its.toArray.size = xs.length := by rw [List.size_toArray, len]
  have full : its.toArray.isEmpty = false := by
    cases its with
    | nil => rw [← len] at hne; cases hne
    | cons _ _ => rfl
  have fits : ∀ {α : Type} (zs : List α), zs.length = xs.length → (List.replicate k.toNat zs).flatten.length ≤ sizeLine := fun zs e => by
    rw [PyProof.Rows.lm_len_rep_flat, e, sizeLine_eq]; omega
  have mul := tuple_mulW l its.toArray n dd sl k t (by rw [decide_eq_false (show ¬ k < -(2 ^ 63) by omega), decide_eq_false (show ¬ k ≥ 2 ^ 63 by omega)]; rfl) (by rw [full, Bool.false_or]; exact beq_eq_false_iff_ne.mpr (by omega))
    (by rw [full, Bool.or_false]; exact decide_eq_false (by omega)) (by rw [size]; omega) (by unfold Builtin.Tuple.tupleTooMany; rw [size, sizeLine_eq]; exact decide_eq_false (by omega)) (by rw [size_rep, List.size_toArray]; exact fits its len)
  refine wpAny_binaryOp_repeat_ref (T := "tuple") (U := "int") (by decide) ⟨_, ho, rfl⟩ (fun z => typeIs_int z k t) noFill_tuple_mul F.fills_int_mul F.slot_int_rmul repeat_tuple F.slot_int_index.lookup ?_
  refine call_meets F.slot_int_rmul (typeIs_int s k t) F.entry_int_rmul (F.args_int_rmul_2 _ _) (int_rmul_tuple k t l its.toArray n dd sl) ⟨ho, rfl, ⟨_, ho, rfl⟩, ?_⟩
  refine call_meets F.slot_tuple_mul ⟨_, ho, rfl⟩ F.entry_tuple_mul (F.args_tuple_mul_2 _ _) mul ⟨ho, ?_⟩
  rw [size_rep]
  exact ⟨.ref s.heap.objs.size, _, I.laid (t' := s.toks) (o := .tup (List.replicate k.toNat xs).flatten) (fun b ob z => Heap.get?_push_of_some _ z) (Nat.le_refl _) ⟨fits xs rfl, _, r.rep k.toNat, IsTup.new _ _⟩, rfl, q _ (I.hok.fresh (Nat.le_refl _))⟩
def dMulT (x y : D) (h : AH) (Q : KD) : Prop := ∃ xs k, x = .tup xs ∧ y = .int k ∧ 0 < xs.length ∧ 2 ≤ k ∧ k ≤ 16000 ∧ xs.length ≤ 1000 ∧ Q (.tup (List.replicate k.toNat xs).flatten) h
theorem dMulT_ok {K : PySem.W.Frag} : OpD K (rRepTW K) dMulT where
  to := by
    rintro F h H x y vx vy Q S rx ry ⟨xs, k, rfl, rfl, h0, h1, h2, h3, q⟩
    cases ry
    cases rx with
    | @tup a _ vs hs rs =>
      have el := rs.length
      refine ⟨a, k, vs, rfl, rfl, sqt_of S.fz hs, by omega, h1, h2, by omega, S.newT ?_ q⟩
      generalize k.toNat = n
      induction n with
      | zero => exact .nil
      | succ n ih => rw [List.replicate_succ, List.replicate_succ, List.flatten_cons, List.flatten_cons]; exact rs.append ih
  mo := by
    rintro x y h Q Q' hq ⟨xs, k, e1, e2, h0, h1, h2, h3, q⟩
    exact ⟨xs, k, e1, e2, h0, h1, h2, h3, hq _ _ q⟩
variable {E : XK} {a b : Expr} {wa wb : WE} {pos : Pos}
theorem ae_mulT (ha : AE X E a wa) (hb : AE X E b wb) : AE X E (.BinOp a .Mult b pos) (wOp dMulT wa wb) := ae_bin dMulT_ok op_repTW ha hb
end
end DL
namespace DL
open PySem PySem.Spec L2 C8
/-! ### needs -/
def stp (a prev : Int) : Int := max (max 0 (-a)) (max (prev - a) (if 0 < a then 1 else 0))
def lastI (xs : List Int) : Int := xs.getLast?.getD 0
def runN (A : Int → Int) (g : Nat) : Nat → List Int
  | 0 => []
  | j + 1 => runN A g j ++ [stp (A ((g : Int) - (j : Nat))) (lastI (runN A g j))]
def nds (A : Int → Int) (g : Nat) : List Int := (runN A g g).reverse
def grt : Prs → Nat
  | [] => 0
  | e :: es => max e.1.toNat (grt es)
theorem runN_len {A : Int → Int} {g : Nat} : ∀ j, (runN A g j).length = j
  | 0 => rfl
  | j + 1 => by rw [runN, List.length_append, runN_len j]; rfl
theorem last_run {A : Int → Int} {g j : Nat} : lastI (runN A g (j + 1)) = stp (A ((g : Int) - (j : Nat))) (lastI (runN A g j)) := by
  unfold lastI
  rw [runN, List.getLast?_append]
  rfl
theorem grt_ge : ∀ {es : Prs} {e : Int × Int}, e ∈ es → e.1.toNat ≤ grt es
  | x :: es, e, h => by
    rcases List.mem_cons.mp h with rfl | h
    · exact Nat.le_max_left ..
    · exact Nat.le_trans (grt_ge h) (Nat.le_max_right ..)
theorem grt_in : ∀ {es : Prs}, es ≠ [] → ∃ e ∈ es, e.1.toNat = grt es
  | [], h => absurd rfl h
  | x :: es, _ => by
    by_cases c : grt es ≤ x.1.toNat
    · exact ⟨x, List.mem_cons_self .., (Nat.max_eq_left c).symm⟩
    · have n : es ≠ [] := by rintro rfl; exact c (Nat.zero_le _)
      obtain ⟨e, h1, h2⟩ := grt_in n
      exact ⟨e, List.mem_cons_of_mem _ h1, by rw [h2]; exact (Nat.max_eq_right (by omega)).symm⟩
theorem grt_is {es : Prs} (r : InR es) {m : Int} (h1 : m ∈ es.map (·.1)) (h2 : ∀ y ∈ es.map (·.1), y ≤ m) : m = (grt es : Nat) := by
  obtain ⟨e, he, rfl⟩ := List.mem_map.mp h1
  obtain ⟨f, hf, ef⟩ := grt_in (es := es) (by rintro rfl; cases he)
  have a1 := grt_ge he
  have a2 := h2 f.1 (List.mem_map.mpr ⟨f, hf, rfl⟩)
  have a3 := r e he
  have a4 := r f hf
  omega
theorem grt_le {es : Prs} (r : InR es) : grt es ≤ 1000000 := by
  by_cases c : es = []
  · subst c; exact Nat.zero_le _
  · obtain ⟨f, hf, ef⟩ := grt_in c
    have := r f hf
    omega
theorem max_four {a b c d : Int} {h : AH} {Q : KD} (q : Q (.int (max (max a b) (max c d))) h) : dMax1 [.lst [.int a, .int b, .int c, .int d]] h Q := by
  refine ⟨_, [a, b, c, d], rfl, rfl, Nat.succ_pos _, fun m hm hy => ?_⟩
  have h1 := hy a (by simp)
  have h2 := hy b (by simp)
  have h3 := hy c (by simp)
  have h4 := hy d (by simp)
  have : m = a ∨ m = b ∨ m = c ∨ m = d := by simpa using hm
  have e : m = max (max a b) (max c d) := by omega
  rw [e]; exact q
/-! ### the defs -/
def S_getit (C : Addr) : FSpec := fun ds h Q _ => ∃ (es : Prs) (k : Int), ds = [ledD C es, .int k] ∧ Q (.int (getI es k)) h
def wr_getit (C : Addr) : WS := (wRet (wGet2 (wFld C "amounts" (wVar 0)) (wVar 1) (wC (.int 0))))
theorem pr_getit (C : Addr) : ∀ ds h Q X, S_getit C ds h Q X → wr_getit C (endsD Q X) (startD 2 ds) h := by
  rintro ds h Q X ⟨es, k, rfl, q⟩
  show wr_getit C (endsD Q X) [some (ledD C es), some (.int k)] h
  simp only [wr_getit, u_asg, u_gN, u_ret, u_retN, u_skip, u_expr, u_ifs, u_c, u_op, u_neg, u_test, u_and, u_or, u_not, u_if, u_nil, u_cons, u_tup, u_lst, u_callP, u_call, u_b, u_chain, u_andV, u_addI, u_subI, u_mulI, u_divI, u_modI, u_powI, u_cmpI, u_eqI, u_eqS, u_eqB, u_abs, u_intI, u_intB, u_newT, u_newF, u_isN, u_notN, wVar, List.set_cons_zero, List.set_cons_succ, List.getElem?_cons_zero, List.getElem?_cons_succ, List.length_cons, List.length_nil, u_lc, u_for, u_r1, u_r2, u_r3, u_num, u_notV, u_yes, u_w0, u_w1, u_dput, u_get2, u_dget, u_prop, u_fld, u_setF, u_make, u_makeS, u_met, u_calO, u_orT, u_tupIt, u_dc, u_maxDd, u_dnew, u_tupi, ix_p0, ix_p1, wSl, woNone, woSome]
  refine ⟨_, _, rfl, rfl, rfl, _, _, rfl, rfl, ?_⟩
  rw [val_getD]
  exact fin_of q
theorem len_getit (C : Addr) : ∀ ds h Q X, S_getit C ds h Q X → ds.length = 2 := fun _ _ _ _ ⟨_, _, e, _⟩ => by rw [e]; rfl
theorem mo_getit (C : Addr) : MoF (S_getit C) := fun _ _ _ _ _ _ hq _ ⟨a, b, e, q⟩ => ⟨a, b, e, hq _ _ q⟩
def S_grt (C : Addr) : FSpec := fun ds h Q _ => ∃ es : Prs, ds = [ledD C es] ∧ (es = [] → Q .non h) ∧ ∀ m, m ∈ es.map (·.1) → (∀ y ∈ es.map (·.1), y ≤ m) → Q (.int m) h
def wr_grt (C : Addr) : WS := (wRet (wMaxDd (wCons (wFld C "amounts" (wVar 0)) wNil) (wCons (wC .non) wNil)))
theorem pr_grt (C : Addr) : ∀ ds h Q X, S_grt C ds h Q X → wr_grt C (endsD Q X) (startD 1 ds) h := by
  rintro ds h Q X ⟨es, rfl, q0, q1⟩
  show wr_grt C (endsD Q X) [some (ledD C es)] h
  simp only [wr_grt, u_asg, u_gN, u_ret, u_retN, u_skip, u_expr, u_ifs, u_c, u_op, u_neg, u_test, u_and, u_or, u_not, u_if, u_nil, u_cons, u_tup, u_lst, u_callP, u_call, u_b, u_chain, u_andV, u_addI, u_subI, u_mulI, u_divI, u_modI, u_powI, u_cmpI, u_eqI, u_eqS, u_eqB, u_abs, u_intI, u_intB, u_newT, u_newF, u_isN, u_notN, wVar, List.set_cons_zero, List.set_cons_succ, List.getElem?_cons_zero, List.getElem?_cons_succ, List.length_cons, List.length_nil, u_lc, u_for, u_r1, u_r2, u_r3, u_num, u_notV, u_yes, u_w0, u_w1, u_dput, u_get2, u_dget, u_prop, u_fld, u_setF, u_make, u_makeS, u_met, u_calO, u_orT, u_tupIt, u_dc, u_maxDd, u_dnew, u_tupi, ix_p0, ix_p1, wSl, woNone, woSome]
  refine ⟨_, _, rfl, rfl, _, _, _, es.map (·.1), rfl, rfl, rfl, toK_keys es, fun e => fin_of (q0 (List.map_eq_nil_iff.mp e)), fun m h1 h2 => fin_of (q1 m h1 h2)⟩
theorem len_grt (C : Addr) : ∀ ds h Q X, S_grt C ds h Q X → ds.length = 1 := fun _ _ _ _ ⟨_, e, _⟩ => by rw [e]; rfl
theorem mo_grt (C : Addr) : MoF (S_grt C) := fun _ _ _ _ _ _ hq _ ⟨a, e, q0, q1⟩ => ⟨a, e, fun z => hq _ _ (q0 z), fun m h1 h2 => hq _ _ (q1 m h1 h2)⟩
def S_needsL (C : Addr) : FSpec := fun ds h Q _ => ∃ es : Prs, ds = [ledD C es] ∧ InR es ∧ Q (.tup ((nds (getI es) (grt es)).map D.int)) h
def wr_needs (C : Addr) : WS := (wSeq (wAsg (wLst true wNil) (gN 1))
  (wSeq (wAsg (wC (.int 0)) (gN 2))
  (wSeq (wFor (iRng3 (wCons (wOrT (wProp C (S_grt C) (wVar 0)) (wC (.int 0))) (wCons (wC (.int 0)) (wCons (wNeg (wC (.int 1))) wNil)))) (gN 3) (wSeq (wAsg (wOp (dIxOwn C (S_getit C)) (wVar 0) (wVar 3)) (gN 4))
  (wSeq (wAsg (wB dMax1 (wCons (wLst false (wCons (wC (.int 0)) (wCons (wNeg (wVar 4)) (wCons (wOp dSub (wVar 2) (wVar 4)) (wCons (wB dInt (wCons (wOp (dCmpI fun i j => decide (j < i)) (wVar 4) (wC (.int 0))) wNil)) wNil))))) wNil)) (gN 2))
  (wExpr (wMethT isL dAppend (wVar 1) (wCons (wVar 2) wNil))))))
  (wRet (wB dTupOf (wCons (wRev false (wVar 1)) wNil))))))
theorem stp_eq {a prev : Int} : max (max 0 (-a)) (max (prev - a) (if decide (0 < a) = true then 1 else 0)) = stp a prev := by
  unfold stp
  by_cases c : 0 < a
  · rw [decide_eq_true c, if_pos rfl, if_pos c]
  · rw [decide_eq_false c, if_neg (by decide), if_neg c]
theorem pr_needs (C : Addr) : ∀ ds h Q X, S_needsL C ds h Q X → wr_needs C (endsD Q X) (startD 5 ds) h := by
  rintro ds h Q X ⟨es, rfl, ir, q⟩
  show wr_needs C (endsD Q X) [some (ledD C es), none, none, none, none] h
  have big := big_size
  have s6 : 1000000 ≤ sizeLine := by decide
  have gl := grt_le ir
  unfold wr_needs
  rw [u_seq]
  simp only [u_asg, u_gN, u_ret, u_retN, u_skip, u_expr, u_ifs, u_c, u_op, u_neg, u_test, u_and, u_or, u_not, u_if, u_nil, u_cons, u_tup, u_lst, u_callP, u_call, u_b, u_chain, u_andV, u_addI, u_subI, u_mulI, u_divI, u_modI, u_powI, u_cmpI, u_eqI, u_eqS, u_eqB, u_abs, u_intI, u_intB, u_newT, u_newF, u_isN, u_notN, wVar, List.set_cons_zero, List.set_cons_succ, List.getElem?_cons_zero, List.getElem?_cons_succ, List.length_cons, List.length_nil, u_lc, u_for, u_r1, u_r2, u_r3, u_num, u_notV, u_yes, u_w0, u_w1, u_dput, u_get2, u_dget, u_prop, u_fld, u_setF, u_make, u_makeS, u_met, u_calO, u_orT, u_tupIt, u_dc, u_maxDd, u_dnew, u_tupi, ix_p0, ix_p1, wSl, woNone, woSome]
  refine ⟨Nat.zero_le _, fun f hf => ?_⟩
  ((try dsimp only); rw [u_seq]; (try simp only [u_asg, u_gN, u_ret, u_retN, u_skip, u_expr, u_ifs, u_c, u_op, u_neg, u_test, u_and, u_or, u_not, u_if, u_nil, u_cons, u_tup, u_lst, u_callP, u_call, u_b, u_chain, u_andV, u_addI, u_subI, u_mulI, u_divI, u_modI, u_powI, u_cmpI, u_eqI, u_eqS, u_eqB, u_abs, u_intI, u_intB, u_newT, u_newF, u_isN, u_notN, wVar, List.set_cons_zero, List.set_cons_succ, List.getElem?_cons_zero, List.getElem?_cons_succ, List.length_cons, List.length_nil, u_lc, u_for, u_r1, u_r2, u_r3, u_num, u_notV, u_yes, u_w0, u_w1, u_dput, u_get2, u_dget, u_prop, u_fld, u_setF, u_make, u_makeS, u_met, u_calO, u_orT, u_tupIt, u_dc, u_maxDd, u_dnew, u_tupi, ix_p0, ix_p1, wSl, woNone, woSome]))
  have key : ∀ (K : KD), K (.int (grt es : Nat)) (up h f (.lst [])) → (wOrT (wProp C (S_grt C) (wVar 0)) (wC (.int 0))) [some (ledD C es), some (.ref f), some (.int 0), none, none] (up h f (.lst [])) K (endsD Q X).ex := fun K k => by
    simp only [u_asg, u_gN, u_ret, u_retN, u_skip, u_expr, u_ifs, u_c, u_op, u_neg, u_test, u_and, u_or, u_not, u_if, u_nil, u_cons, u_tup, u_lst, u_callP, u_call, u_b, u_chain, u_andV, u_addI, u_subI, u_mulI, u_divI, u_modI, u_powI, u_cmpI, u_eqI, u_eqS, u_eqB, u_abs, u_intI, u_intB, u_newT, u_newF, u_isN, u_notN, wVar, List.set_cons_zero, List.set_cons_succ, List.getElem?_cons_zero, List.getElem?_cons_succ, List.length_cons, List.length_nil, u_lc, u_for, u_r1, u_r2, u_r3, u_num, u_notV, u_yes, u_w0, u_w1, u_dput, u_get2, u_dget, u_prop, u_fld, u_setF, u_make, u_makeS, u_met, u_calO, u_orT, u_tupIt, u_dc, u_maxDd, u_dnew, u_tupi, ix_p0, ix_p1, wSl, woNone, woSome]
    refine ⟨ledD_isI, es, rfl, fun e => ⟨false, rfl, ?_⟩, fun m h1 h2 => ⟨_, rfl, ?_⟩⟩
    · subst e; exact k
    · have e := grt_is ir h1 h2
      subst e
      by_cases c : ((grt es : Nat) : Int) = 0
      · rw [show (((grt es : Nat) : Int) != 0) = false by simpa using c, if_neg (by decide), ← c]; exact k
      · rw [show (((grt es : Nat) : Int) != 0) = true by simpa using c, if_pos rfl]; exact k
  rw [u_seq, u_for, u_r3, u_cons]
  refine key _ ?_
  simp only [u_asg, u_gN, u_ret, u_retN, u_skip, u_expr, u_ifs, u_c, u_op, u_neg, u_test, u_and, u_or, u_not, u_if, u_nil, u_cons, u_tup, u_lst, u_callP, u_call, u_b, u_chain, u_andV, u_addI, u_subI, u_mulI, u_divI, u_modI, u_powI, u_cmpI, u_eqI, u_eqS, u_eqB, u_abs, u_intI, u_intB, u_newT, u_newF, u_isN, u_notN, wVar, List.set_cons_zero, List.set_cons_succ, List.getElem?_cons_zero, List.getElem?_cons_succ, List.length_cons, List.length_nil, u_lc, u_for, u_r1, u_r2, u_r3, u_num, u_notV, u_yes, u_w0, u_w1, u_dput, u_get2, u_dget, u_prop, u_fld, u_setF, u_make, u_makeS, u_met, u_calO, u_orT, u_tupIt, u_dc, u_maxDd, u_dnew, u_tupi, ix_p0, ix_p1, wSl, woNone, woSome]
  refine ⟨grt es, by
    have := RgC.neg (i := (grt es : Nat)) (j := 0) (by omega) (by omega) (by decide) (by decide)
    rwa [show (((grt es : Nat) : Int) - 0).toNat = grt es by omega] at this, ?_⟩
  refine loop_go (fun i ρ h' => ∃ a b, ρ = [some (ledD C es), some (.ref f), some (.int (lastI (runN (getI es) (grt es) i))), a, b] ∧ h' = up h f (.lst ((runN (getI es) (grt es) i).map D.int))) ⟨_, _, rfl, rfl⟩ (fun _ _ _ _ => trivial) ?_ ?_
  · rintro i x _ _ K hi ⟨a, b, rfl, rfl⟩ k
    obtain ⟨rfl, li⟩ := stepD_get hi
    rw [u_gN]
    dsimp only [List.set_cons_zero, List.set_cons_succ]
    ((try dsimp only); rw [u_seq]; (try simp only [u_asg, u_gN, u_ret, u_retN, u_skip, u_expr, u_ifs, u_c, u_op, u_neg, u_test, u_and, u_or, u_not, u_if, u_nil, u_cons, u_tup, u_lst, u_callP, u_call, u_b, u_chain, u_andV, u_addI, u_subI, u_mulI, u_divI, u_modI, u_powI, u_cmpI, u_eqI, u_eqS, u_eqB, u_abs, u_intI, u_intB, u_newT, u_newF, u_isN, u_notN, wVar, List.set_cons_zero, List.set_cons_succ, List.getElem?_cons_zero, List.getElem?_cons_succ, List.length_cons, List.length_nil, u_lc, u_for, u_r1, u_r2, u_r3, u_num, u_notV, u_yes, u_w0, u_w1, u_dput, u_get2, u_dget, u_prop, u_fld, u_setF, u_make, u_makeS, u_met, u_calO, u_orT, u_tupIt, u_dc, u_maxDd, u_dnew, u_tupi, ix_p0, ix_p1, wSl, woNone, woSome]))
    refine ⟨ledD_isI, es, _, rfl, ?_⟩
    ((try dsimp only); rw [u_seq]; (try simp only [u_asg, u_gN, u_ret, u_retN, u_skip, u_expr, u_ifs, u_c, u_op, u_neg, u_test, u_and, u_or, u_not, u_if, u_nil, u_cons, u_tup, u_lst, u_callP, u_call, u_b, u_chain, u_andV, u_addI, u_subI, u_mulI, u_divI, u_modI, u_powI, u_cmpI, u_eqI, u_eqS, u_eqB, u_abs, u_intI, u_intB, u_newT, u_newF, u_isN, u_notN, wVar, List.set_cons_zero, List.set_cons_succ, List.getElem?_cons_zero, List.getElem?_cons_succ, List.length_cons, List.length_nil, u_lc, u_for, u_r1, u_r2, u_r3, u_num, u_notV, u_yes, u_w0, u_w1, u_dput, u_get2, u_dget, u_prop, u_fld, u_setF, u_make, u_makeS, u_met, u_calO, u_orT, u_tupIt, u_dc, u_maxDd, u_dnew, u_tupi, ix_p0, ix_p1, wSl, woNone, woSome]))
    refine ⟨by decide, max_four ?_⟩
    rw [stp_eq]
    have er : ((grt es : Nat) : Int) + (i : Nat) * -1 = (grt es : Nat) - (i : Nat) := by omega
    rw [er, ← last_run (A := getI es)]
    simp only [u_asg, u_gN, u_ret, u_retN, u_skip, u_expr, u_ifs, u_c, u_op, u_neg, u_test, u_and, u_or, u_not, u_if, u_nil, u_cons, u_tup, u_lst, u_callP, u_call, u_b, u_chain, u_andV, u_addI, u_subI, u_mulI, u_divI, u_modI, u_powI, u_cmpI, u_eqI, u_eqS, u_eqB, u_abs, u_intI, u_intB, u_newT, u_newF, u_isN, u_notN, wVar, List.set_cons_zero, List.set_cons_succ, List.getElem?_cons_zero, List.getElem?_cons_succ, List.length_cons, List.length_nil, u_lc, u_for, u_r1, u_r2, u_r3, u_num, u_notV, u_yes, u_w0, u_w1, u_dput, u_get2, u_dget, u_prop, u_fld, u_setF, u_make, u_makeS, u_met, u_calO, u_orT, u_tupIt, u_dc, u_maxDd, u_dnew, u_tupi, ix_p0, ix_p1, wSl, woNone, woSome, wMethT]
    refine ⟨⟨_, lst_ref up_same⟩, f, _, _, rfl, rfl, up_same, ?_, ?_⟩
    · rw [List.length_map, runN_len]; omega
    · rw [up_up]
      have e2 : (runN (getI es) (grt es) (i + 1)).map D.int = (runN (getI es) (grt es) i).map D.int ++ [.int (lastI (runN (getI es) (grt es) (i + 1)))] := by
        rw [last_run, runN, List.map_append]; rfl
      exact k _ _ ⟨_, _, rfl, by rw [e2]⟩
  · rintro _ _ ⟨a, b, rfl, rfl⟩
    rw [stepD_len]
    simp only [u_asg, u_gN, u_ret, u_retN, u_skip, u_expr, u_ifs, u_c, u_op, u_neg, u_test, u_and, u_or, u_not, u_if, u_nil, u_cons, u_tup, u_lst, u_callP, u_call, u_b, u_chain, u_andV, u_addI, u_subI, u_mulI, u_divI, u_modI, u_powI, u_cmpI, u_eqI, u_eqS, u_eqB, u_abs, u_intI, u_intB, u_newT, u_newF, u_isN, u_notN, wVar, List.set_cons_zero, List.set_cons_succ, List.getElem?_cons_zero, List.getElem?_cons_succ, List.length_cons, List.length_nil, u_lc, u_for, u_r1, u_r2, u_r3, u_num, u_notV, u_yes, u_w0, u_w1, u_dput, u_get2, u_dget, u_prop, u_fld, u_setF, u_make, u_makeS, u_met, u_calO, u_orT, u_tupIt, u_dc, u_maxDd, u_dnew, u_tupi, ix_p0, ix_p1, wSl, woNone, woSome, wRev]
    refine ⟨_, lst_ref up_same, ?_⟩
    refine ⟨_, _, rfl, rfl, ?_⟩
    rw [← List.map_reverse]
    exact fin_sub (sub_up hf) q
theorem len_needsL (C : Addr) : ∀ ds h Q X, S_needsL C ds h Q X → ds.length = 1 := fun _ _ _ _ ⟨_, e, _⟩ => by rw [e]; rfl
theorem mo_needsL (C : Addr) : MoF (S_needsL C) := fun _ _ _ _ _ _ hq _ ⟨a, e, o, q⟩ => ⟨a, e, o, hq _ _ q⟩
def S_needL (C : Addr) : FSpec := fun ds h Q _ => ∃ es : Prs, ds = [ledD C es] ∧ InR es ∧ Q (.int (nds (getI es) (grt es)).sum) h
def wr_need (C : Addr) : WS := (wRet (wB dSumT (wCons (wCallP (S_needsL C) 1 (fun ds _ => ds) (wCons (wVar 0) wNil)) wNil)))
theorem pr_need (C : Addr) : ∀ ds h Q X, S_needL C ds h Q X → wr_need C (endsD Q X) (startD 1 ds) h := by
  rintro ds h Q X ⟨es, rfl, ir, q⟩
  show wr_need C (endsD Q X) [some (ledD C es)] h
  simp only [wr_need, u_asg, u_gN, u_ret, u_retN, u_skip, u_expr, u_ifs, u_c, u_op, u_neg, u_test, u_and, u_or, u_not, u_if, u_nil, u_cons, u_tup, u_lst, u_callP, u_call, u_b, u_chain, u_andV, u_addI, u_subI, u_mulI, u_divI, u_modI, u_powI, u_cmpI, u_eqI, u_eqS, u_eqB, u_abs, u_intI, u_intB, u_newT, u_newF, u_isN, u_notN, wVar, List.set_cons_zero, List.set_cons_succ, List.getElem?_cons_zero, List.getElem?_cons_succ, List.length_cons, List.length_nil, u_lc, u_for, u_r1, u_r2, u_r3, u_num, u_notV, u_yes, u_w0, u_w1, u_dput, u_get2, u_dget, u_prop, u_fld, u_setF, u_make, u_makeS, u_met, u_calO, u_orT, u_tupIt, u_dc, u_maxDd, u_dnew, u_tupi, ix_p0, ix_p1, wSl, woNone, woSome]
  exact ⟨trivial, es, rfl, ir, _, rfl, fin_of q⟩
theorem len_needL (C : Addr) : ∀ ds h Q X, S_needL C ds h Q X → ds.length = 1 := fun _ _ _ _ ⟨_, e, _⟩ => by rw [e]; rfl
theorem mo_needL (C : Addr) : MoF (S_needL C) := fun _ _ _ _ _ _ hq _ ⟨a, e, o, q⟩ => ⟨a, e, o, hq _ _ q⟩
/-! ### the laws' own needs -/
/-! ### bounds -/
end DL
namespace DL
open PySem PySem.Spec L2 C8 PyProof.Rows
/-! ### the truth of an instance, by its __len__ -/
end DL
namespace PL
open PySem PySem.Spec L2 C8 DL PK
/-! ### ledgers of programs, and their lengths -/
abbrev S_is_row (z : Ad) : FSpec := S_isRow
abbrev S_Ledger___init__ (z : Ad) : FSpec := S_init z.Ledger
abbrev S_Ledger_rows (z : Ad) : FSpec := S_rows z.Ledger
abbrev S_Ledger_greatest (z : Ad) : FSpec := S_grt z.Ledger
abbrev S_Ledger___getitem__ (z : Ad) : FSpec := S_getit z.Ledger
end PL
namespace PL
open PySem PySem.Spec L2 C8 DL PK
/-! ### the readings -/
def w_is_row (z : Ad) : WS := (wSeq (wIfS (wOr (wNot (wTest (wB dIsi (wCons (wVar 0) (wCons (wC (.ty "tuple")) wNil))))) (wTest (wOp (dEq fun b => !b) (wB dLen (wCons (wVar 0) wNil)) (wC (.int 2))))) (wRet (wC (.bl false))) wSkip)
  (wRet (wAndV (wCallP (PK.S_is_between z) 3 (fun ds _ => ds) (wCons (wOp dIx (wVar 0) (wC (.int 0))) (wCons (wC (.int 0)) (wCons (wC (.int 1000000)) wNil)))) (wCallP (PK.S_is_integer z) 1 (fun ds _ => ds) (wCons (wOp dIx (wVar 0) (wC (.int 1))) wNil)))))
def w_Ledger___init__ (z : Ad) : WS := (wSeq (wAsg wDnew (gN 2))
  (wSeq (wFor (iNum (wCons (wVar 1) wNil)) (gT 2 (gsCons (gN 3) (gsCons (gN 4) gsNil))) (wSeq (wIfS (wNot (wTest (wCallP (S_is_row z) 1 (fun ds _ => ds) (wCons (wVar 4) wNil)))) wNever wSkip)
  (wDput (wVar 2) (wOp dIx (wVar 4) (wC (.int 0))) (wOp (dAdd false) (wGet2 (wVar 2) (wOp dIx (wVar 4) (wC (.int 0))) (wC (.int 0))) (wOp dIx (wVar 4) (wC (.int 1)))))))
  (wSetF z.Ledger "amounts" (wVar 0) (wDc false (iSeq (wB (dSortD false) (wCons (wVar 2) wNil))) (gN 5) (wTest (wOp (dEq fun b => !b) (wDGet (wVar 2) (wVar 5)) (wC (.int 0)))) (wVar 5) (wDGet (wVar 2) (wVar 5)) [5]))))
def w_Ledger_rows (z : Ad) : WS := (wRet (wTupIt (wFld z.Ledger "amounts" (wVar 0))))
def w_Ledger_greatest (z : Ad) : WS := (wRet (wMaxDd (wCons (wFld z.Ledger "amounts" (wVar 0)) wNil) (wCons (wC .non) wNil)))
def w_Ledger___getitem__ (z : Ad) : WS := (wRet (wGet2 (wFld z.Ledger "amounts" (wVar 0)) (wVar 1) (wC (.int 0))))
end PL
namespace PL
open PySem PySem.Spec L2 C8 DL PK
theorem p_is_row (z : Ad) : ∀ ds h Q X, S_is_row z ds h Q X → w_is_row z (endsD Q X) (startD 1 ds) h := pr_isRow
theorem len_is_row (z : Ad) : ∀ ds h Q X, S_is_row z ds h Q X → ds.length = 1 := len_isRow
theorem mo_is_row (z : Ad) : MoF (S_is_row z) := mo_isRow
theorem p_Ledger___init__ (z : Ad) : ∀ ds h Q X, S_Ledger___init__ z ds h Q X → w_Ledger___init__ z (endsD Q X) (startD 6 ds) h := pr_init z.Ledger
theorem len_Ledger___init__ (z : Ad) : ∀ ds h Q X, S_Ledger___init__ z ds h Q X → ds.length = 2 := len_init z.Ledger
theorem mo_Ledger___init__ (z : Ad) : MoF (S_Ledger___init__ z) := mo_init z.Ledger
theorem p_Ledger_rows (z : Ad) : ∀ ds h Q X, S_Ledger_rows z ds h Q X → w_Ledger_rows z (endsD Q X) (startD 1 ds) h := pr_rows z.Ledger
theorem len_Ledger_rows (z : Ad) : ∀ ds h Q X, S_Ledger_rows z ds h Q X → ds.length = 1 := len_rows z.Ledger
theorem mo_Ledger_rows (z : Ad) : MoF (S_Ledger_rows z) := mo_rows z.Ledger
theorem p_Ledger_greatest (z : Ad) : ∀ ds h Q X, S_Ledger_greatest z ds h Q X → w_Ledger_greatest z (endsD Q X) (startD 1 ds) h := pr_grt z.Ledger
theorem len_Ledger_greatest (z : Ad) : ∀ ds h Q X, S_Ledger_greatest z ds h Q X → ds.length = 1 := len_grt z.Ledger
theorem mo_Ledger_greatest (z : Ad) : MoF (S_Ledger_greatest z) := mo_grt z.Ledger
theorem p_Ledger___getitem__ (z : Ad) : ∀ ds h Q X, S_Ledger___getitem__ z ds h Q X → w_Ledger___getitem__ z (endsD Q X) (startD 2 ds) h := pr_getit z.Ledger
theorem len_Ledger___getitem__ (z : Ad) : ∀ ds h Q X, S_Ledger___getitem__ z ds h Q X → ds.length = 2 := len_getit z.Ledger
theorem mo_Ledger___getitem__ (z : Ad) : MoF (S_Ledger___getitem__ z) := mo_getit z.Ledger
end PL
namespace DL
open PySem PySem.Spec L2 C8
/-! ### what the numbers are -/
def tlast (es : List Int) : Int := es.getD (es.length - 1) 0
def tgap (es : List Int) (k : Nat) : Int := tlast es - es.getD k 0
def tbad (es : List Int) (k : Nat) : Bool := !decide (tgap es k % ((k : Int) + 1) = 0)
def brk (es : List Int) : List Int := (List.range es.length).filterMap fun k => if tbad es k = true then some ((k : Int) + 1) else none
def firstD (es : List Int) : D := match brk es with
  | [] => .non
  | b :: _ => .int b
def TOk (es : List Int) : Prop := 1 ≤ es.length ∧ es.length ≤ 400 ∧ ∀ e ∈ es, 0 ≤ e ∧ e ≤ 1000000000000
/-- the items of rs at the places m, 2 * m, .. (counted from 1) up to n -/
def mults (rs : List Int) (m n : Nat) : List Int := (List.range (n / m)).map fun j => rs.getD ((j + 1) * m - 1) 0
def IsRests (es rs : List Int) : Prop := rs.length = es.length ∧ (∀ k, k < es.length → (mults rs (k + 1) es.length).sum = tgap es k / ((k : Int) + 1)) ∧ ∀ r ∈ rs, r.natAbs < 2 ^ 120
def S_isBrk : FSpec := fun ds h Q _ => ∃ es k, ds = [tpI es, .int ((k : Nat) + 1)] ∧ k < es.length ∧ Q (.bl (tbad es k)) h
def wr_isBrk : WS := (wRet (wOp (dEq fun b => !b) (wOp dMod (wOp dSub (wOp dIx (wVar 0) (wNeg (wC (.int 1)))) (wOp dIx (wVar 0) (wOp dSub (wVar 1) (wC (.int 1))))) (wVar 1)) (wC (.int 0))))
def S_brkCaps : FSpec := fun ds h Q _ => ∃ es, ds = [tpI es] ∧ TOk es ∧ Q (lsI (brk es)) h
def wr_brkCaps : WS := (wRet (wLc false (iRng2 (wCons (wC (.int 1)) (wCons (wOp (dAdd false) (wB dLen (wCons (wVar 0) wNil)) (wC (.int 1))) wNil))) (gN 1) (wTest (wCallP S_isBrk 2 (fun ds _ => ds) (wCons (wVar 0) (wCons (wVar 1) wNil)))) (wVar 1) [1]))
def S_restsOf : FSpec := fun ds h Q _ => ∃ es, ds = [tpI es] ∧ TOk es ∧ ∀ rs, IsRests es rs → Q (tpI rs) h
def wr_restsOf : WS := (wSeq (wAsg (wB dLen (wCons (wVar 0) wNil)) (gN 1))
  (wSeq (wAsg (wOp (dMul true) (wLst false (wCons (wC (.int 0)) wNil)) (wVar 1)) (gN 2))
  (wSeq (wFor (iRng3 (wCons (wVar 1) (wCons (wC (.int 0)) (wCons (wNeg (wC (.int 1))) wNil)))) (gN 3) (wSeq (wAsg (wLc false (iRng3 (wCons (wOp (dMul false) (wC (.int 2)) (wVar 3)) (wCons (wOp (dAdd false) (wVar 1) (wC (.int 1))) (wCons (wVar 3) wNil)))) (gN 5) wYes (wOp dIx (wVar 2) (wOp dSub (wVar 5) (wC (.int 1)))) [5]) (gN 4))
  (wAsg (wOp dSub (wOp dDiv (wOp dSub (wOp dIx (wVar 0) (wNeg (wC (.int 1)))) (wOp dIx (wVar 0) (wOp dSub (wVar 3) (wC (.int 1))))) (wVar 3)) (wB dSum (wCons (wVar 4) wNil))) (gSubL (wVar 2) (wOp dSub (wVar 3) (wC (.int 1)))))))
  (wRet (wB dTupOf (wCons (wVar 2) wNil))))))
theorem gap_step {es : List Int} {k : Nat} (hk : k < es.length) {h : AH} {Q : KD} {Z : KX} {ρ : EnvD} {i : Nat} {c : Nat} (e0 : ρ[0]? = some (some (tpI es))) (e1 : ρ[c]? = some (some (.int ((k : Nat) + 1)))) (q : Q (.int (tgap es k)) h) :
    (wOp dSub (wOp dIx (wVar 0) (wNeg (wC (.int 1)))) (wOp dIx (wVar 0) (wOp dSub (wVar c) (wC (.int 1))))) ρ h Q Z := by
  simp only [u_op, u_var e0, u_var e1, u_neg, u_c, u_subI]
  rw [u_ixTd (at_last (by omega)), show ((k : Nat) : Int) + 1 - 1 = (k : Nat) by omega, u_ixTd (at_nth hk), u_subI]
  exact q
theorem pr_isBrk : ∀ ds h Q X, S_isBrk ds h Q X → wr_isBrk (endsD Q X) (startD 2 ds) h := by
  rintro ds h Q X ⟨es, k, rfl, hk, q⟩
  show wr_isBrk (endsD Q X) [some (tpI es), some (.int ((k : Nat) + 1))] h
  unfold wr_isBrk
  rw [u_ret, u_op, u_op]
  refine gap_step (i := 0) hk rfl rfl ?_
  simp only [u_asg, u_gN, u_ret, u_retN, u_skip, u_expr, u_ifs, u_c, u_op, u_neg, u_test, u_and, u_or, u_not, u_if, u_nil, u_cons, u_tup, u_lst, u_callP, u_call, u_b, u_chain, u_andV, u_addI, u_subI, u_mulI, u_divI, u_modI, u_powI, u_cmpI, u_eqI, u_eqS, u_eqB, u_abs, u_intI, u_intB, u_newT, u_newF, u_isN, u_notN, wVar, List.set_cons_zero, List.set_cons_succ, List.getElem?_cons_zero, List.getElem?_cons_succ, List.length_cons, List.length_nil, u_lc, u_for, u_r1, u_r2, u_r3, u_num, u_notV, u_yes, u_w0, u_w1]
  exact ⟨by omega, fin_of q⟩
theorem brk_comp (es : List Int) : (intsD 1 es.length).filterMap (fun x => match x with | .int c => if tbad es (c - 1).toNat = true then some (.int c) else none | _ => none) = (brk es).map D.int := by
  unfold intsD brk
  rw [List.filterMap_map, List.map_filterMap]
  congr 1
  funext k
  show (if tbad es ((1 : Int) + k - 1).toNat = true then some (D.int (1 + k)) else none) = _
  rw [show ((1 : Int) + k - 1).toNat = k by omega]
  by_cases c : tbad es k = true
  · rw [if_pos c, if_pos c, Option.map_some, Int.add_comm]
  · rw [if_neg c, if_neg c]; rfl
theorem pr_brkCaps : ∀ ds h Q X, S_brkCaps ds h Q X → wr_brkCaps (endsD Q X) (startD 2 ds) h := by
  rintro ds h Q X ⟨es, rfl, ⟨l1, l2, hr⟩, q⟩
  show wr_brkCaps (endsD Q X) [some (tpI es), none] h
  simp only [wr_brkCaps, u_asg, u_gN, u_ret, u_retN, u_skip, u_expr, u_ifs, u_c, u_op, u_neg, u_test, u_and, u_or, u_not, u_if, u_nil, u_cons, u_tup, u_lst, u_callP, u_call, u_b, u_chain, u_andV, u_addI, u_subI, u_mulI, u_divI, u_modI, u_powI, u_cmpI, u_eqI, u_eqS, u_eqB, u_abs, u_intI, u_intB, u_newT, u_newF, u_isN, u_notN, wVar, List.set_cons_zero, List.set_cons_succ, List.getElem?_cons_zero, List.getElem?_cons_succ, List.length_cons, List.length_nil, u_lc, u_for, u_r1, u_r2, u_r3, u_num, u_notV, u_yes, u_w0, u_w1, u_lenT, List.length_map]
  refine ⟨⟨by decide, by decide, by omega, by omega⟩, fun p hp => ?_⟩
  rw [show (((es.length : Nat) : Int) + 1 - 1).toNat = es.length by omega]
  refine comp_pure (fun x => match x with | .int c => if tbad es (c - 1).toNat = true then some (.int c) else none | _ => none) (fun _ => trivial) (by rw [intsD_len]; exact Nat.le_trans l2 (by decide)) ?_ ?_
  · intro x acc K hx la k
    obtain ⟨i, hi, rfl⟩ := mem_intsD hx
    simp only [u_asg, u_gN, u_ret, u_retN, u_skip, u_expr, u_ifs, u_c, u_op, u_neg, u_test, u_and, u_or, u_not, u_if, u_nil, u_cons, u_tup, u_lst, u_callP, u_call, u_b, u_chain, u_andV, u_addI, u_subI, u_mulI, u_divI, u_modI, u_powI, u_cmpI, u_eqI, u_eqS, u_eqB, u_abs, u_intI, u_intB, u_newT, u_newF, u_isN, u_notN, wVar, List.set_cons_zero, List.set_cons_succ, List.getElem?_cons_zero, List.getElem?_cons_succ, List.length_cons, List.length_nil, u_lc, u_for, u_r1, u_r2, u_r3, u_num, u_notV, u_yes, u_w0, u_w1]
    refine ⟨trivial, es, i, by rw [Int.add_comm], hi, ?_⟩
    simp only [show ((1 : Int) + i - 1).toNat = i by omega] at k
    dsimp only
    by_cases c : tbad es i = true
    · rw [if_pos c]
      rw [if_pos c] at k
      exact ⟨acc, up_same, la, by rw [up_up]; exact k⟩
    · rw [if_neg c]
      rw [if_neg c] at k
      rw [Option.toList_none, List.append_nil] at k
      exact k
  · rw [brk_comp]
    exact endF hp (fin_of q)
theorem rg_ok {i j c : Int} {n : Nat} (h1 : 1 ≤ c) (h2 : c ≤ 100000) (h3 : 0 ≤ i) (h4 : i ≤ 1000000) (h5 : 0 ≤ j) (h6 : j ≤ 1000000) (hn : Builtin.Range.rangeSize i j c = n) (hn2 : n ≤ 1000000) : RgC i j c n := by
  refine ⟨by omega, by omega, ?_, hn⟩
  unfold Builtin.Range.small
  rw [hn]
  simp only [Builtin.Range.rangeFitsLong, Bool.and_eq_true, Bool.or_eq_true, decide_eq_true_eq, beq_iff_eq]
  rw [if_pos (by omega)]
  simp only [Bool.and_eq_true, decide_eq_true_eq]
  omega
/-- 2 * c, 3 * c, .. up to n -/
theorem size_mul2 {n c : Nat} (hc : 1 ≤ c) (hn : c ≤ n) : Builtin.Range.rangeSize (2 * (c : Int)) ((n : Int) + 1) (c : Int) = ((n / c - 1 : Nat) : Int) := by
  unfold Builtin.Range.rangeSize
  rw [if_pos (by omega)]
  have d := Nat.div_eq_sub_div (by omega : 0 < c) hn
  by_cases h : 2 * c ≤ n
  · rw [if_pos (by omega)]
    have e : (n : Int) + 1 - 2 * c - 1 = ((n - c - c : Nat) : Int) := by omega
    have d2 := Nat.div_eq_sub_div (by omega : 0 < c) (by omega : c ≤ n - c)
    rw [e, ← Int.natCast_ediv, d, d2]
    generalize (n - c - c) / c = t
    omega
  · rw [if_neg (by omega), d, Nat.div_eq_of_lt (by omega : n - c < c)]; rfl
/-! ### the quotients: found from the last place down -/
/-- rs is right from the place i on (counted from 0) -/
def TPart (es rs : List Int) (i : Nat) : Prop := rs.length = es.length ∧ (∀ k, i ≤ k → k < es.length → (mults rs (k + 1) es.length).sum = tgap es k / ((k : Int) + 1)) ∧
  ∀ k, i ≤ k → k < es.length → ∀ L, es.length < (k + 1) * 2 ^ (L + 1) → (rs.getD k 0).natAbs ≤ 2000000000000 * 401 ^ L
theorem gap_le {es : List Int} (ok : TOk es) {k : Nat} (hk : k < es.length) : (tgap es k).natAbs ≤ 1000000000000 := by
  obtain ⟨l1, l2, hr⟩ := ok
  have h1 := hr (es.getD k 0) (by rw [List.getD_eq_getElem?_getD, List.getElem?_eq_getElem hk]; exact List.getElem_mem hk)
  have h2 := hr (tlast es) (by unfold tlast; rw [List.getD_eq_getElem?_getD, List.getElem?_eq_getElem (by omega : es.length - 1 < es.length)]; exact List.getElem_mem _)
  unfold tgap
  omega
theorem tsum_le {l : List Int} {B : Nat} (h : ∀ x ∈ l, x.natAbs ≤ B) : l.sum.natAbs ≤ l.length * B := by
  induction l with
  | nil => simp
  | cons x l ih =>
    have h1 := h x (List.mem_cons_self ..)
    have h2 := ih fun y hy => h y (List.mem_cons_of_mem _ hy)
    rw [List.sum_cons, List.length_cons, Nat.add_mul, Nat.one_mul]
    omega
theorem mults_cons {rs : List Int} {c n : Nat} (hc : 1 ≤ c) (hn : c ≤ n) : mults rs c n = rs.getD (c - 1) 0 :: (List.range (n / c - 1)).map fun j => rs.getD ((j + 2) * c - 1) 0 := by
  unfold mults
  have d : n / c = (n / c - 1) + 1 := by
    have := Nat.div_pos hn (by omega : 0 < c)
    omega
  rw [d, List.range_succ_eq_map, List.map_cons, List.map_map]
  congr 1
  · congr 1; omega
theorem mults_set {rs : List Int} {c n k : Nat} {v : Int} (hk : k + 1 < c) : mults (rs.set k v) c n = mults rs c n := by
  unfold mults
  apply List.map_congr_left
  intro j _
  have : k < (j + 1) * c - 1 := by
    have : c ≤ (j + 1) * c := Nat.le_mul_of_pos_left c (by omega)
    omega
  rw [List.getD_eq_getElem?_getD, List.getD_eq_getElem?_getD, List.getElem?_set_ne (by omega)]
/-- one place more -/
theorem part_step {es rs : List Int} {k : Nat} (ok : TOk es) (hk : k < es.length) (P : TPart es rs (k + 1)) :
    TPart es (rs.set k (tgap es k / ((k : Int) + 1) - ((List.range (es.length / (k + 1) - 1)).map fun j => rs.getD ((j + 2) * (k + 1) - 1) 0).sum)) k := by
  obtain ⟨hl, hs, hb⟩ := P
  have hc : 1 ≤ k + 1 := by omega
  have other : ((List.range (es.length / (k + 1) - 1)).map fun j => (rs.set k (tgap es k / ((k : Int) + 1) - ((List.range (es.length / (k + 1) - 1)).map fun j => rs.getD ((j + 2) * (k + 1) - 1) 0).sum)).getD ((j + 2) * (k + 1) - 1) 0) =
      ((List.range (es.length / (k + 1) - 1)).map fun j => rs.getD ((j + 2) * (k + 1) - 1) 0) := by
    apply List.map_congr_left
    intro j _
    have : k < (j + 2) * (k + 1) - 1 := by
      have : 2 * (k + 1) ≤ (j + 2) * (k + 1) := Nat.mul_le_mul_right _ (by omega)
      omega
    rw [List.getD_eq_getElem?_getD, List.getD_eq_getElem?_getD, List.getElem?_set_ne (by omega)]
  have here : ∀ v, (rs.set k v).getD k 0 = v := fun v => by
    rw [List.getD_eq_getElem?_getD, List.getElem?_set_self (by omega)]; rfl
  refine ⟨by rw [List.length_set]; exact hl, fun i h1 h2 => ?_, fun i h1 h2 L h3 => ?_⟩
  · by_cases e : i = k
    · subst e
      rw [mults_cons hc (by omega), List.sum_cons, other, show i + 1 - 1 = i by omega, here]
      omega
    · rw [mults_set (by omega)]
      exact hs i (by omega) h2
  · by_cases e : i = k
    · subst e
      rw [here]
      have g1 := gap_le ok h2
      have g2 : (tgap es i / ((i : Int) + 1)).natAbs ≤ 1000000000000 := by
        have := Int.natAbs_ediv_le_natAbs (tgap es i) ((i : Int) + 1)
        omega
      have cnt : es.length / (i + 1) - 1 ≤ 400 := by
        have := Nat.div_le_self es.length (i + 1)
        have := ok.2.1
        omega
      cases L with
      | zero =>
        have z : es.length / (i + 1) - 1 = 0 := by
          have : es.length / (i + 1) < 2 := Nat.div_lt_of_lt_mul (by rw [Nat.zero_add, Nat.pow_one] at h3; exact h3)
          omega
        rw [z]
        simp
        omega
      | succ L =>
        have s1 := tsum_le (l := (List.range (es.length / (i + 1) - 1)).map fun j => rs.getD ((j + 2) * (i + 1) - 1) 0) (B := 2000000000000 * 401 ^ L) (by
          intro x hx
          obtain ⟨j, hj, rfl⟩ := List.mem_map.mp hx
          have hj := List.mem_range.mp hj
          have m1 : 2 * (i + 1) ≤ (j + 2) * (i + 1) := Nat.mul_le_mul_right _ (by omega)
          have m2 : (j + 2) * (i + 1) ≤ es.length := by
            have : j + 2 ≤ es.length / (i + 1) := by omega
            exact Nat.le_trans (Nat.mul_le_mul_right _ this) (Nat.div_mul_le_self _ _)
          refine hb _ (by omega) (by omega) L ?_
          rw [show (j + 2) * (i + 1) - 1 + 1 = (j + 2) * (i + 1) by omega]
          have : (i + 1) * 2 ^ (L + 1 + 1) = (2 * (i + 1)) * 2 ^ (L + 1) := by rw [Nat.pow_succ 2 (L + 1)]; ac_rfl
          rw [this] at h3
          exact Nat.lt_of_lt_of_le h3 (Nat.mul_le_mul_right _ m1))
        rw [List.length_map, List.length_range] at s1
        have s2 : (es.length / (i + 1) - 1) * (2000000000000 * 401 ^ L) ≤ 400 * (2000000000000 * 401 ^ L) := Nat.mul_le_mul_right _ cnt
        have s3 : 1 ≤ 401 ^ L := Nat.one_le_pow _ _ (by decide)
        rw [Nat.pow_succ]
        generalize 401 ^ L = t at s1 s2 s3 ⊢
        generalize (es.length / (i + 1) - 1) * (2000000000000 * t) = u at s1 s2
        omega
    · rw [List.getD_eq_getElem?_getD, List.getElem?_set_ne (by omega), ← List.getD_eq_getElem?_getD]
      exact hb i (by omega) h2 L h3
theorem part_all {es rs : List Int} (ok : TOk es) (P : TPart es rs 0) : IsRests es rs := by
  obtain ⟨hl, hs, hb⟩ := P
  refine ⟨hl, fun k hk => hs k (Nat.zero_le _) hk, fun r hr => ?_⟩
  obtain ⟨k, hk, rfl⟩ := List.mem_iff_getElem.mp hr
  have h := hb k (Nat.zero_le _) (by omega) 8 (by have := ok.2.1; omega)
  rw [List.getD_eq_getElem?_getD, List.getElem?_eq_getElem hk] at h
  exact Nat.lt_of_le_of_lt h (by decide)
/-- there is one alone -/
theorem rests_one {es rs ts : List Int} (h1 : IsRests es rs) (h2 : IsRests es ts) : rs = ts := by
  obtain ⟨l1, s1, _⟩ := h1
  obtain ⟨l2, s2, _⟩ := h2
  have key : ∀ m k, es.length - k = m → k < es.length → rs.getD k 0 = ts.getD k 0 := by
    intro m
    induction m using Nat.strongRecOn with
    | _ m ih =>
      intro k hm hk
      have a := s1 k hk
      have b := s2 k hk
      rw [mults_cons (by omega) (by omega), List.sum_cons, show k + 1 - 1 = k by omega] at a b
      have o : ((List.range (es.length / (k + 1) - 1)).map fun j => rs.getD ((j + 2) * (k + 1) - 1) 0) = ((List.range (es.length / (k + 1) - 1)).map fun j => ts.getD ((j + 2) * (k + 1) - 1) 0) := by
        apply List.map_congr_left
        intro j hj
        have hj := List.mem_range.mp hj
        have m1 : 2 * (k + 1) ≤ (j + 2) * (k + 1) := Nat.mul_le_mul_right _ (by omega)
        have m2 : (j + 2) * (k + 1) ≤ es.length := by
          have : j + 2 ≤ es.length / (k + 1) := by omega
          exact Nat.le_trans (Nat.mul_le_mul_right _ this) (Nat.div_mul_le_self _ _)
        exact ih _ (by omega) _ rfl (by omega)
      rw [o] at a
      omega
  apply List.ext_getElem?
  intro k
  by_cases h : k < es.length
  · have := key _ k rfl h
    rw [List.getD_eq_getElem?_getD, List.getD_eq_getElem?_getD, List.getElem?_eq_getElem (by omega), List.getElem?_eq_getElem (by omega)] at this
    rw [List.getElem?_eq_getElem (by omega), List.getElem?_eq_getElem (by omega)]
    exact congrArg some this
  · rw [List.getElem?_eq_none (by omega), List.getElem?_eq_none (by omega)]
theorem gap_step2 {es : List Int} {k : Nat} (hk : k < es.length) {h : AH} {Q : KD} (q : Q (.int (tgap es k)) h) : dIx (tpI es) (.int (-1)) h fun x h1 => dIx (tpI es) (.int (((k : Nat) : Int) + 1 - 1)) h1 fun y h2 => dSub x y h2 Q := by
  rw [u_ixTd (at_last (by omega)), show ((k : Nat) : Int) + 1 - 1 = (k : Nat) by omega, u_ixTd (at_nth hk), u_subI]
  exact q
theorem zeros (n : Nat) : (List.replicate n [D.int 0]).flatten = (List.replicate n (0 : Int)).map D.int := by
  induction n with
  | zero => rfl
  | succ n ih => rw [List.replicate_succ, List.flatten_cons, ih]; rfl
theorem pr_restsOf : ∀ ds h Q X, S_restsOf ds h Q X → wr_restsOf (endsD Q X) (startD 6 ds) h := by
  rintro ds h Q X ⟨es, rfl, ok, q⟩
  have ok' := ok
  obtain ⟨l1, l2, hr⟩ := ok'
  show wr_restsOf (endsD Q X) [some (tpI es), none, none, none, none, none] h
  unfold wr_restsOf
  rw [u_seq]
  simp only [u_asg, u_gN, u_ret, u_retN, u_skip, u_expr, u_ifs, u_c, u_op, u_neg, u_test, u_and, u_or, u_not, u_if, u_nil, u_cons, u_tup, u_lst, u_callP, u_call, u_b, u_chain, u_andV, u_addI, u_subI, u_mulI, u_divI, u_modI, u_powI, u_cmpI, u_eqI, u_eqS, u_eqB, u_abs, u_intI, u_intB, u_newT, u_newF, u_isN, u_notN, wVar, List.set_cons_zero, List.set_cons_succ, List.getElem?_cons_zero, List.getElem?_cons_succ, List.length_cons, List.length_nil, u_lc, u_for, u_r1, u_r2, u_r3, u_num, u_notV, u_yes, u_w0, u_w1, u_lenT, List.length_map]
  rw [u_seq]
  simp only [u_asg, u_gN, u_ret, u_retN, u_skip, u_expr, u_ifs, u_c, u_op, u_neg, u_test, u_and, u_or, u_not, u_if, u_nil, u_cons, u_tup, u_lst, u_callP, u_call, u_b, u_chain, u_andV, u_addI, u_subI, u_mulI, u_divI, u_modI, u_powI, u_cmpI, u_eqI, u_eqS, u_eqB, u_abs, u_intI, u_intB, u_newT, u_newF, u_isN, u_notN, wVar, List.set_cons_zero, List.set_cons_succ, List.getElem?_cons_zero, List.getElem?_cons_succ, List.length_cons, List.length_nil, u_lc, u_for, u_r1, u_r2, u_r3, u_num, u_notV, u_yes, u_w0, u_w1]
  refine ⟨by decide, [.int 0], rfl, by omega, by omega, ?_, ?_⟩
  · have : 400 ≤ sizeLine := by decide
    simp; omega
  rw [u_newT]
  intro p hp
  rw [Int.toNat_natCast, zeros]
  rw [u_seq]
  simp only [u_asg, u_gN, u_ret, u_retN, u_skip, u_expr, u_ifs, u_c, u_op, u_neg, u_test, u_and, u_or, u_not, u_if, u_nil, u_cons, u_tup, u_lst, u_callP, u_call, u_b, u_chain, u_andV, u_addI, u_subI, u_mulI, u_divI, u_modI, u_powI, u_cmpI, u_eqI, u_eqS, u_eqB, u_abs, u_intI, u_intB, u_newT, u_newF, u_isN, u_notN, wVar, List.set_cons_zero, List.set_cons_succ, List.getElem?_cons_zero, List.getElem?_cons_succ, List.length_cons, List.length_nil, u_lc, u_for, u_r1, u_r2, u_r3, u_num, u_notV, u_yes, u_w0, u_w1]
  refine ⟨es.length, by simpa using RgC.neg (i := (es.length : Int)) (j := 0) (by omega) (by omega) (by omega) (by omega), ?_⟩
  refine loop_go (fun i ρ h' => ∃ rs a b c, ρ = [some (tpI es), some (.int (es.length : Nat)), some (.ref p), a, b, c] ∧ h' = up h p (.lst (rs.map D.int)) ∧ TPart es rs (es.length - i)) ?_ (fun _ _ _ _ => trivial) ?_ ?_
  · exact ⟨_, _, _, _, rfl, rfl, by simp, fun k h1 h2 => by omega, fun k h1 h2 => by omega⟩
  · rintro i x _ _ K hi ⟨rs, a, b, c, rfl, rfl, P⟩ kk
    obtain ⟨rfl, li⟩ := stepD_get hi
    obtain ⟨k, ek⟩ : ∃ k : Nat, es.length = i + (k + 1) := ⟨es.length - i - 1, by omega⟩
    have ex : ((es.length : Nat) : Int) + (i : Nat) * -1 = (k : Nat) + 1 := by omega
    have hk : k < es.length := by omega
    have lr := P.1
    rw [show es.length - i = k + 1 by omega] at P
    rw [ex, u_gN]
    dsimp only [List.set_cons_zero, List.set_cons_succ]
    rw [u_seq]
    simp only [u_asg, u_gN, u_ret, u_retN, u_skip, u_expr, u_ifs, u_c, u_op, u_neg, u_test, u_and, u_or, u_not, u_if, u_nil, u_cons, u_tup, u_lst, u_callP, u_call, u_b, u_chain, u_andV, u_addI, u_subI, u_mulI, u_divI, u_modI, u_powI, u_cmpI, u_eqI, u_eqS, u_eqB, u_abs, u_intI, u_intB, u_newT, u_newF, u_isN, u_notN, wVar, List.set_cons_zero, List.set_cons_succ, List.getElem?_cons_zero, List.getElem?_cons_succ, List.length_cons, List.length_nil, u_lc, u_for, u_r1, u_r2, u_r3, u_num, u_notV, u_yes, u_w0, u_w1, u_lc]
    refine ⟨mul_l (by decide), es.length / (k + 1) - 1, ?_, fun r hr0 => ?_⟩
    · have cnt : es.length / (k + 1) - 1 ≤ 400 := by
        have := Nat.div_le_self es.length (k + 1)
        omega
      have e := size_mul2 (n := es.length) (c := k + 1) (by omega) (by omega)
      rw [Int.natCast_add] at e
      exact rg_ok (by omega) (by omega) (by omega) (by omega) (by omega) (by omega) e (by omega)
    have hp2 : (up h p (.lst (rs.map D.int))) p = some (.lst (rs.map D.int)) := up_same
    have hlen : (stepD (2 * (((k : Nat) : Int) + 1)) (((k : Nat) : Int) + 1) (es.length / (k + 1) - 1)).length ≤ sizeLine := by
      rw [stepD_len]
      have := Nat.div_le_self es.length (k + 1)
      have : 400 ≤ sizeLine := by decide
      omega
    refine comp_pure (fun x => match x with | .int v => some (.int (rs.getD (v - 1).toNat 0)) | _ => none) (fun _ => trivial) hlen ?_ ?_
    · intro x acc K2 hx la k2
      obtain ⟨j, hj, rfl⟩ := mem_stepD hx
      have m1 : (j + 2) * (k + 1) ≤ es.length := by
        have : j + 2 ≤ es.length / (k + 1) := by omega
        exact Nat.le_trans (Nat.mul_le_mul_right _ this) (Nat.div_mul_le_self _ _)
      have m2 : 2 * (k + 1) ≤ (j + 2) * (k + 1) := Nat.mul_le_mul_right _ (by omega)
      have ev : 2 * (((k : Nat) : Int) + 1) + (j : Nat) * (((k : Nat) : Int) + 1) - 1 = (((j + 2) * (k + 1) - 1 : Nat) : Int) := by
        rw [Int.natCast_sub (by omega), Int.natCast_mul]
        push_cast
        rw [← Int.add_mul]
        congr 2
        omega
      simp only [u_asg, u_gN, u_ret, u_retN, u_skip, u_expr, u_ifs, u_c, u_op, u_neg, u_test, u_and, u_or, u_not, u_if, u_nil, u_cons, u_tup, u_lst, u_callP, u_call, u_b, u_chain, u_andV, u_addI, u_subI, u_mulI, u_divI, u_modI, u_powI, u_cmpI, u_eqI, u_eqS, u_eqB, u_abs, u_intI, u_intB, u_newT, u_newF, u_isN, u_notN, wVar, List.set_cons_zero, List.set_cons_succ, List.getElem?_cons_zero, List.getElem?_cons_succ, List.length_cons, List.length_nil, u_lc, u_for, u_r1, u_r2, u_r3, u_num, u_notV, u_yes, u_w0, u_w1]
      dsimp only at k2
      rw [ev, Int.toNat_natCast] at k2
      rw [ev, u_ixRd (up_get hr0 hp2) (at_nth (es := rs) (by omega))]
      exact ⟨acc, up_same, la, by rw [up_up]; exact k2⟩
    refine endF hr0 ?_
    have er : (stepD (2 * (((k : Nat) : Int) + 1)) (((k : Nat) : Int) + 1) (es.length / (k + 1) - 1)).filterMap (fun x => match x with | .int v => some (.int (rs.getD (v - 1).toNat 0)) | _ => none) =
        ((List.range (es.length / (k + 1) - 1)).map fun j => rs.getD ((j + 2) * (k + 1) - 1) 0).map D.int := by
      unfold stepD
      rw [List.filterMap_map, List.map_map]
      have ef : ((fun x => match x with | .int v => some (D.int (rs.getD (v - 1).toNat 0)) | _ => none) ∘ fun (j : Nat) => D.int (2 * (((k : Nat) : Int) + 1) + (j : Nat) * (((k : Nat) : Int) + 1))) = some ∘ (D.int ∘ fun j => rs.getD ((j + 2) * (k + 1) - 1) 0) := by
        funext j
        have m2 : 2 * (k + 1) ≤ (j + 2) * (k + 1) := Nat.mul_le_mul_right _ (by omega)
        have ev : 2 * (((k : Nat) : Int) + 1) + (j : Nat) * (((k : Nat) : Int) + 1) - 1 = (((j + 2) * (k + 1) - 1 : Nat) : Int) := by
          rw [Int.natCast_sub (by omega), Int.natCast_mul]
          push_cast
          rw [← Int.add_mul]
          congr 2
          omega
        show some (D.int (rs.getD (2 * (((k : Nat) : Int) + 1) + (j : Nat) * (((k : Nat) : Int) + 1) - 1).toNat 0)) = _
        rw [ev, Int.toNat_natCast]
        rfl
      rw [ef]
      exact List.filterMap_eq_map ▸ rfl
    rw [er]
    refine gap_step2 hk ?_
    simp only [u_asg, u_gN, u_ret, u_retN, u_skip, u_expr, u_ifs, u_c, u_op, u_neg, u_test, u_and, u_or, u_not, u_if, u_nil, u_cons, u_tup, u_lst, u_callP, u_call, u_b, u_chain, u_andV, u_addI, u_subI, u_mulI, u_divI, u_modI, u_powI, u_cmpI, u_eqI, u_eqS, u_eqB, u_abs, u_intI, u_intB, u_newT, u_newF, u_isN, u_notN, wVar, List.set_cons_zero, List.set_cons_succ, List.getElem?_cons_zero, List.getElem?_cons_succ, List.length_cons, List.length_nil, u_lc, u_for, u_r1, u_r2, u_r3, u_num, u_notV, u_yes, u_w0, u_w1, dSum, gSubL]
    refine ⟨⟨by omega, .inl (by omega)⟩, _, _, rfl, rfl, p, _, _, k, rfl, rfl, hp2, ?_, ?_⟩
    · unfold ixN
      rw [List.length_map, if_pos (by omega), if_pos (by omega)]
      congr 1; omega
    · rw [up_up, ← List.map_set]
      refine kk _ _ ⟨_, _, _, _, rfl, rfl, ?_⟩
      rw [show es.length - (i + 1) = k by omega]
      exact part_step ok hk P
  · rintro _ _ ⟨rs, a, b, c, rfl, rfl, P⟩
    rw [stepD_len, Nat.sub_self] at P
    simp only [u_asg, u_gN, u_ret, u_retN, u_skip, u_expr, u_ifs, u_c, u_op, u_neg, u_test, u_and, u_or, u_not, u_if, u_nil, u_cons, u_tup, u_lst, u_callP, u_call, u_b, u_chain, u_andV, u_addI, u_subI, u_mulI, u_divI, u_modI, u_powI, u_cmpI, u_eqI, u_eqS, u_eqB, u_abs, u_intI, u_intB, u_newT, u_newF, u_isN, u_notN, wVar, List.set_cons_zero, List.set_cons_succ, List.getElem?_cons_zero, List.getElem?_cons_succ, List.length_cons, List.length_nil, u_lc, u_for, u_r1, u_r2, u_r3, u_num, u_notV, u_yes, u_w0, u_w1]
    refine ⟨_, rs.map D.int, rfl, ?_, fin_sub (sub_up hp) (q rs (part_all ok P))⟩
    show (match (up h p (.lst (rs.map D.int))) p with | some (.lst xs) => some xs | _ => none) = _
    rw [up_same]
theorem len_isBrk : ∀ ds h Q X, S_isBrk ds h Q X → ds.length = 2 := fun _ _ _ _ ⟨_, _, e, _⟩ => by rw [e]; rfl
theorem len_brkCaps : ∀ ds h Q X, S_brkCaps ds h Q X → ds.length = 1 := fun _ _ _ _ ⟨_, e, _⟩ => by rw [e]; rfl
theorem len_restsOf : ∀ ds h Q X, S_restsOf ds h Q X → ds.length = 1 := fun _ _ _ _ ⟨_, e, _⟩ => by rw [e]; rfl
theorem mo_isBrk : MoF S_isBrk := fun _ _ _ _ _ _ hq _ ⟨a, b, e, o, q⟩ => ⟨a, b, e, o, hq _ _ q⟩
theorem mo_brkCaps : MoF S_brkCaps := fun _ _ _ _ _ _ hq _ ⟨a, e, o, q⟩ => ⟨a, e, o, hq _ _ q⟩
theorem mo_restsOf : MoF S_restsOf := fun _ _ _ _ _ _ hq _ ⟨a, e, o, q⟩ => ⟨a, e, o, fun rs h => hq _ _ (q rs h)⟩
end DL
namespace DL
open PySem PySem.Spec L2 C8
/-! ### tables: the ledger that a table tells -/
def trows (rs : List Int) : Prs := (List.range (rs.length - 1)).map fun (k : Nat) => ((k : Int) + 1, rs.getD k 0 - rs.getD (k + 1) 0)
def gsR (rs : List Int) : Prs := (trows rs).filter fun e => !decide (e.2 = 0)
def rise (rs : List Int) : List Int := (List.range (rs.length - 1)).filterMap fun (k : Nat) => if rs.getD k 0 < rs.getD (k + 1) 0 then some ((k : Int) + 1) else none
def farL (e0 : Int) (gs : Prs) : List Int := gs.filterMap fun e => if 0 < e.2 ∧ e0 < e.1 then some e.1 else none
def nsum (gs : Prs) : Int := (nds (getI gs) (grt gs)).sum
theorem trows_len {rs : List Int} : (trows rs).length = rs.length - 1 := by unfold trows; rw [List.length_map, List.length_range]
theorem trows_mem {rs : List Int} {e : Int × Int} (h : e ∈ trows rs) : ∃ k, k < rs.length - 1 ∧ e = ((k : Int) + 1, rs.getD k 0 - rs.getD (k + 1) 0) := by
  unfold trows at h
  obtain ⟨k, hk, rfl⟩ := List.mem_map.mp h
  exact ⟨k, List.mem_range.mp hk, rfl⟩
theorem trows_pw (rs : List Int) : (trows rs).Pairwise (fun a b => a.1 < b.1) := by
  unfold trows
  rw [List.pairwise_map]
  exact List.pairwise_lt_range.imp fun {a b} h => by show (a : Int) + 1 < b + 1; omega
theorem trows_in {rs : List Int} (h : rs.length ≤ 1000000) : InR (trows rs) := fun e he => by
  obtain ⟨k, hk, rfl⟩ := trows_mem he
  exact ⟨by show (0 : Int) ≤ k + 1; omega, by show (k : Int) + 1 ≤ 1000000; omega⟩
theorem gsR_led (rs : List Int) : Led (gsR rs) (amt (trows rs)) := by
  have nd := pw_nodup (trows_pw rs)
  refine ⟨(trows_pw rs).filter _, fun k v => ?_⟩
  unfold gsR
  rw [List.mem_filter, amt_get nd]
  constructor
  · rintro ⟨m, c⟩
    exact ⟨(getI_mem nd m).symm, by simpa using c⟩
  · rintro ⟨rfl, n⟩
    refine ⟨?_, by simpa using n⟩
    cases c : hasI (trows rs) k with
    | false => exact absurd (getI_no c) n
    | true =>
      obtain ⟨v, m⟩ := hasI_iff.mp c
      rw [getI_mem nd m]; exact m
theorem gsR_len {rs : List Int} : (gsR rs).length ≤ rs.length := by
  have := List.length_filter_le (fun e : Int × Int => !decide (e.2 = 0)) (trows rs)
  rw [trows_len] at this
  exact Nat.le_trans this (Nat.sub_le _ _)
theorem gsR_sub {rs : List Int} {e : Int × Int} (h : e ∈ gsR rs) : e ∈ trows rs := (List.mem_filter.mp h).1
theorem gsR_in {rs : List Int} (h : rs.length ≤ 1000000) : InR (gsR rs) := fun e he => trows_in h e (gsR_sub he)
theorem exists_rests {es : List Int} (ok : TOk es) : ∃ rs, IsRests es rs := by
  have key : ∀ j, j ≤ es.length → ∃ rs, TPart es rs (es.length - j) := by
    intro j
    induction j with
    | zero =>
      intro _
      exact ⟨List.replicate es.length 0, List.length_replicate, fun k h1 h2 => by omega, fun k h1 h2 => by omega⟩
    | succ j ih =>
      intro hj
      obtain ⟨rs, P⟩ := ih (by omega)
      rw [show es.length - j = (es.length - (j + 1)) + 1 by omega] at P
      exact ⟨_, part_step ok (by omega) P⟩
  obtain ⟨rs, P⟩ := key es.length (Nat.le_refl _)
  rw [Nat.sub_self] at P
  exact ⟨rs, part_all ok P⟩
open Classical in
noncomputable def rsts (es : List Int) : List Int := if h : ∃ rs, IsRests es rs then h.choose else []
theorem rsts_is {es : List Int} (ok : TOk es) : IsRests es (rsts es) := by
  have h := exists_rests ok
  unfold rsts
  rw [dif_pos h]
  exact h.choose_spec
theorem rsts_len {es : List Int} (ok : TOk es) : (rsts es).length = es.length := (rsts_is ok).1
noncomputable def gsOf (es : List Int) : Prs := gsR (rsts es)
theorem gsOf_len {es : List Int} (ok : TOk es) : (gsOf es).length ≤ es.length := by
  have := gsR_len (rs := rsts es)
  rw [rsts_len ok] at this
  exact this
theorem gsOf_in {es : List Int} (ok : TOk es) : InR (gsOf es) := gsR_in (by rw [rsts_len ok]; have := ok.2.1; omega)
/-! ### the refusals -/
noncomputable def refW (es : List Int) (s : Bool) : Str := if brk es ≠ [] then "broken" else if s = false then "few" else if rise (rsts es) ≠ [] then "rises" else "far"
noncomputable def refN (es : List Int) (s : Bool) : List Int := if brk es ≠ [] then brk es else if s = false then (if es.getD 0 0 < nsum (gsOf es) then [nsum (gsOf es)] else []) else if rise (rsts es) ≠ [] then rise (rsts es) else farL (es.getD 0 0) (gsOf es)
noncomputable def pickN (es : List Int) (s : Bool) : Int := if refW es s = "far" then lastI (refN es s) else (refN es s).headD 0
noncomputable def judD (C : Addr) (es : List Int) (s : Bool) : D := if refN es s = [] then .tup [.str "account", .int (es.getD 0 0), ledD C (gsOf es)] else .tup [.str (refW es s), .int (pickN es s)]
theorem ref_brk {es : List Int} {s : Bool} (c : brk es ≠ []) : refW es s = "broken" ∧ refN es s = brk es := by
  unfold refW refN; rw [if_pos c, if_pos c]; exact ⟨rfl, rfl⟩
theorem ref_few {es : List Int} (c : brk es = []) : refW es false = "few" ∧ refN es false = if es.getD 0 0 < nsum (gsOf es) then [nsum (gsOf es)] else [] := by
  unfold refW refN; simp [c]
theorem ref_rise {es : List Int} (c : brk es = []) (d : rise (rsts es) ≠ []) : refW es true = "rises" ∧ refN es true = rise (rsts es) := by
  unfold refW refN; simp [c, d]
theorem ref_far {es : List Int} (c : brk es = []) (d : rise (rsts es) = []) : refW es true = "far" ∧ refN es true = farL (es.getD 0 0) (gsOf es) := by
  unfold refW refN; simp [c, d]
end DL
namespace DL
open PySem PySem.Spec L2 C8
/-! ### the judge's defs -/
def S_told (C : Addr) : FSpec := fun ds h Q _ => ∃ es, ds = [tpI es] ∧ TOk es ∧ Q (ledD C (gsOf es)) h
def S_rising : FSpec := fun ds h Q _ => ∃ es, ds = [tpI es] ∧ TOk es ∧ Q (lsI (rise (rsts es))) h
def S_far (C : Addr) : FSpec := fun ds h Q _ => ∃ es, ds = [tpI es] ∧ TOk es ∧ Q (lsI (farL (es.getD 0 0) (gsOf es))) h
def S_leastW (C : Addr) : FSpec := fun ds h Q _ => ∃ es, ds = [tpI es] ∧ TOk es ∧ Q (lsI (if es.getD 0 0 < nsum (gsOf es) then [nsum (gsOf es)] else [])) h
def S_refus (C : Addr) : FSpec := fun ds h Q _ => ∃ es s, ds = [tpI es, .bl s] ∧ TOk es ∧ Q (.tup [.str (refW es s), lsI (refN es s)]) h
def wr_told (C : Addr) : WS := (wSeq (wAsg (wCallP S_restsOf 1 (fun ds _ => ds) (wCons (wVar 0) wNil)) (gN 1))
  (wSeq (wAsg (wLc false (iRng2 (wCons (wC (.int 1)) (wCons (wB dLen (wCons (wVar 0) wNil)) wNil))) (gN 3) wYes (wTup (wCons (wVar 3) (wCons (wOp dSub (wOp dIx (wVar 1) (wOp dSub (wVar 3) (wC (.int 1)))) (wOp dIx (wVar 1) (wVar 3))) wNil))) [3]) (gN 2))
  (wRet (wMakeS C (starS 1 (S_init C)) (wVar 2)))))
def wr_rising : WS := (wSeq (wAsg (wCallP S_restsOf 1 (fun ds _ => ds) (wCons (wVar 0) wNil)) (gN 1))
  (wRet (wLc false (iRng2 (wCons (wC (.int 1)) (wCons (wB dLen (wCons (wVar 0) wNil)) wNil))) (gN 2) (wTest (wOp (dCmpI fun i j => decide (i < j)) (wOp dIx (wVar 1) (wOp dSub (wVar 2) (wC (.int 1)))) (wOp dIx (wVar 1) (wVar 2)))) (wVar 2) [2])))
def wr_far (C : Addr) : WS := (wRet (wLc false (iTupD (wProp C (S_rows C) (wCallP (S_told C) 1 (fun ds _ => ds) (wCons (wVar 0) wNil)))) (gT 2 (gsN [1, 2])) (wAnd (wTest (wOp (dCmpI fun i j => decide (j < i)) (wVar 2) (wC (.int 0)))) (wTest (wOp (dCmpI fun i j => decide (j < i)) (wVar 1) (wOp dIx (wVar 0) (wC (.int 0)))))) (wVar 1) [1, 2]))
def wr_leastW (C : Addr) : WS := (wSeq (wAsg (wCallP (S_needL C) 1 (fun ds _ => ds) (wCons (wCallP (S_told C) 1 (fun ds _ => ds) (wCons (wVar 0) wNil)) wNil)) (gN 1))
  (wRet (wIf (wTest (wOp (dCmpI fun i j => decide (j < i)) (wVar 1) (wOp dIx (wVar 0) (wC (.int 0))))) (wLst false (wCons (wVar 1) wNil)) (wLst false wNil))))
def wr_refus (C : Addr) : WS := (wSeq (wAsg (wCallP S_brkCaps 1 (fun ds _ => ds) (wCons (wVar 0) wNil)) (gN 2))
  (wSeq (wIfS (wTest (wOp (dEq fun b => !b) (wVar 2) (wLst false wNil))) (wRet (wTup (wCons (wC (.str "broken")) (wCons (wVar 2) wNil)))) wSkip)
  (wSeq (wIfS (wNot (wTruth (wVar 1))) (wRet (wTup (wCons (wC (.str "few")) (wCons (wCallP (S_leastW C) 1 (fun ds _ => ds) (wCons (wVar 0) wNil)) wNil)))) wSkip)
  (wSeq (wAsg (wCallP S_rising 1 (fun ds _ => ds) (wCons (wVar 0) wNil)) (gN 3))
  (wRet (wIf (wTest (wOp (dEq fun b => !b) (wVar 3) (wLst false wNil))) (wTup (wCons (wC (.str "rises")) (wCons (wVar 3) wNil))) (wTup (wCons (wC (.str "far")) (wCons (wCallP (S_far C) 1 (fun ds _ => ds) (wCons (wVar 0) wNil)) wNil)))))))))
theorem len_told (C : Addr) : ∀ ds h Q X, S_told C ds h Q X → ds.length = 1 := fun _ _ _ _ ⟨_, e, _⟩ => by rw [e]; rfl
theorem len_rising : ∀ ds h Q X, S_rising ds h Q X → ds.length = 1 := fun _ _ _ _ ⟨_, e, _⟩ => by rw [e]; rfl
theorem len_far (C : Addr) : ∀ ds h Q X, S_far C ds h Q X → ds.length = 1 := fun _ _ _ _ ⟨_, e, _⟩ => by rw [e]; rfl
theorem len_leastW (C : Addr) : ∀ ds h Q X, S_leastW C ds h Q X → ds.length = 1 := fun _ _ _ _ ⟨_, e, _⟩ => by rw [e]; rfl
theorem len_refus (C : Addr) : ∀ ds h Q X, S_refus C ds h Q X → ds.length = 2 := fun _ _ _ _ ⟨_, _, e, _⟩ => by rw [e]; rfl
theorem mo_told (C : Addr) : MoF (S_told C) := fun _ _ _ _ _ _ hq _ ⟨a, e, o, q⟩ => ⟨a, e, o, hq _ _ q⟩
theorem mo_rising : MoF S_rising := fun _ _ _ _ _ _ hq _ ⟨a, e, o, q⟩ => ⟨a, e, o, hq _ _ q⟩
theorem mo_far (C : Addr) : MoF (S_far C) := fun _ _ _ _ _ _ hq _ ⟨a, e, o, q⟩ => ⟨a, e, o, hq _ _ q⟩
theorem mo_leastW (C : Addr) : MoF (S_leastW C) := fun _ _ _ _ _ _ hq _ ⟨a, e, o, q⟩ => ⟨a, e, o, hq _ _ q⟩
theorem mo_refus (C : Addr) : MoF (S_refus C) := fun _ _ _ _ _ _ hq _ ⟨a, b, e, o, q⟩ => ⟨a, b, e, o, hq _ _ q⟩
end DL
namespace DL
open PySem PySem.Spec L2 C8
/-! ### the package's judge -/
section
variable {rs : List Int} {k : Nat} {h : AH} {Q : KD}
theorem nx_a (hk : k + 1 < rs.length) : dIx (tpI rs) (.int (1 + (k : Nat) - 1)) h Q = Q (.int (rs.getD k 0)) h := by
  rw [show (1 : Int) + (k : Nat) - 1 = (k : Nat) by omega]; exact u_ixTd (at_nth (by omega))
theorem nx_b (hk : k + 1 < rs.length) : dIx (tpI rs) (.int (1 + (k : Nat))) h Q = Q (.int (rs.getD (k + 1) 0)) h := by
  rw [show (1 : Int) + (k : Nat) = ((k + 1 : Nat) : Int) by omega]; exact u_ixTd (at_nth hk)
theorem t0 {es : List Int} (h1 : 1 ≤ es.length) : dIx (tpI es) (.int 0) h Q = Q (.int (es.getD 0 0)) h := u_ixTd (at_nth (es := es) (k := 0) (by omega))
end
def fRow (rs : List Int) : D → Option D
  | .int c => some (pairD (c, rs.getD (c - 1).toNat 0 - rs.getD c.toNat 0))
  | _ => none
theorem fRow_map (rs : List Int) : (intsD 1 (rs.length - 1)).filterMap (fRow rs) = (trows rs).map pairD := by
  unfold intsD trows
  rw [List.filterMap_map, List.map_map]
  have ef : (fRow rs ∘ fun (i : Nat) => D.int (1 + (i : Nat))) = some ∘ (pairD ∘ fun (k : Nat) => ((k : Int) + 1, rs.getD k 0 - rs.getD (k + 1) 0)) := by
    funext i
    show some (pairD (1 + (i : Nat), rs.getD ((1 : Int) + (i : Nat) - 1).toNat 0 - rs.getD ((1 : Int) + (i : Nat)).toNat 0)) = some (pairD ((i : Int) + 1, _))
    rw [show ((1 : Int) + (i : Nat) - 1).toNat = i by omega, show ((1 : Int) + (i : Nat)).toNat = i + 1 by omega, Int.add_comm]
  rw [ef]
  exact List.filterMap_eq_map ▸ rfl
def fRise (rs : List Int) : D → Option D
  | .int c => if rs.getD (c - 1).toNat 0 < rs.getD c.toNat 0 then some (.int c) else none
  | _ => none
theorem fRise_map (rs : List Int) : (intsD 1 (rs.length - 1)).filterMap (fRise rs) = (rise rs).map D.int := by
  unfold intsD rise
  rw [List.filterMap_map, List.map_filterMap]
  congr 1
  funext i
  show (if rs.getD ((1 : Int) + (i : Nat) - 1).toNat 0 < rs.getD ((1 : Int) + (i : Nat)).toNat 0 then some (D.int (1 + (i : Nat))) else none) = _
  rw [show ((1 : Int) + (i : Nat) - 1).toNat = i by omega, show ((1 : Int) + (i : Nat)).toNat = i + 1 by omega, Int.add_comm]
  by_cases c : rs.getD i 0 < rs.getD (i + 1) 0
  · rw [if_pos c, if_pos c]; rfl
  · rw [if_neg c, if_neg c]; rfl
def fFar (e0 : Int) : D → Option D
  | .tup [.int a, .int b] => if 0 < b ∧ e0 < a then some (.int a) else none
  | _ => none
theorem fFar_map (e0 : Int) (gs : Prs) : (gs.map pairD).filterMap (fFar e0) = (farL e0 gs).map D.int := by
  unfold farL
  rw [List.filterMap_map, List.map_filterMap]
  congr 1
  funext e
  show (if 0 < e.2 ∧ e0 < e.1 then some (D.int e.1) else none) = _
  by_cases c : 0 < e.2 ∧ e0 < e.1
  · rw [if_pos c, if_pos c]; rfl
  · rw [if_neg c, if_neg c]; rfl
theorem pr_told (C : Addr) : ∀ ds h Q X, S_told C ds h Q X → wr_told C (endsD Q X) (startD 4 ds) h := by
  rintro ds h Q X ⟨es, rfl, ok, q⟩
  have ok' := ok
  obtain ⟨l1, l2, hr⟩ := ok'
  have big := big_size
  have lr := rsts_len ok
  show wr_told C (endsD Q X) [some (tpI es), none, none, none] h
  unfold wr_told
  ((try dsimp only); rw [u_seq]; (try simp only [u_asg, u_gN, u_ret, u_retN, u_skip, u_expr, u_ifs, u_c, u_op, u_neg, u_test, u_and, u_or, u_not, u_if, u_nil, u_cons, u_tup, u_lst, u_callP, u_call, u_b, u_chain, u_andV, u_addI, u_subI, u_mulI, u_divI, u_modI, u_powI, u_cmpI, u_eqI, u_eqS, u_eqB, u_abs, u_intI, u_intB, u_newT, u_newF, u_isN, u_notN, wVar, List.set_cons_zero, List.set_cons_succ, List.getElem?_cons_zero, List.getElem?_cons_succ, List.length_cons, List.length_nil, u_lc, u_for, u_r1, u_r2, u_r3, u_num, u_notV, u_yes, u_w0, u_w1, u_dput, u_get2, u_dget, u_prop, u_fld, u_setF, u_make, u_makeS, u_met, u_calO, u_orT, u_tupIt, u_dc, u_maxDd, u_dnew, u_tupi, ix_p0, ix_p1, wSl, woNone, woSome]))
  refine ⟨trivial, es, rfl, ok, fun rs hrs => ?_⟩
  obtain rfl := rests_one hrs (rsts_is ok)
  ((try dsimp only); rw [u_seq]; (try simp only [u_asg, u_gN, u_ret, u_retN, u_skip, u_expr, u_ifs, u_c, u_op, u_neg, u_test, u_and, u_or, u_not, u_if, u_nil, u_cons, u_tup, u_lst, u_callP, u_call, u_b, u_chain, u_andV, u_addI, u_subI, u_mulI, u_divI, u_modI, u_powI, u_cmpI, u_eqI, u_eqS, u_eqB, u_abs, u_intI, u_intB, u_newT, u_newF, u_isN, u_notN, wVar, List.set_cons_zero, List.set_cons_succ, List.getElem?_cons_zero, List.getElem?_cons_succ, List.length_cons, List.length_nil, u_lc, u_for, u_r1, u_r2, u_r3, u_num, u_notV, u_yes, u_w0, u_w1, u_dput, u_get2, u_dget, u_prop, u_fld, u_setF, u_make, u_makeS, u_met, u_calO, u_orT, u_tupIt, u_dc, u_maxDd, u_dnew, u_tupi, ix_p0, ix_p1, wSl, woNone, woSome]))
  simp only [u_lenT, List.length_map]
  refine ⟨⟨by decide, by decide, by omega, by omega⟩, fun p hp => ?_⟩
  rw [show (((es.length : Nat) : Int) - 1).toNat = es.length - 1 by omega]
  refine comp_pure (fRow (rsts es)) (fun _ => trivial) (by rw [intsD_len]; omega) ?_ ?_
  · intro x acc K hx la k
    obtain ⟨i, hi, rfl⟩ := mem_intsD hx
    have e1 : fRow (rsts es) (.int (1 + (i : Nat))) = some (pairD (1 + (i : Nat), (rsts es).getD i 0 - (rsts es).getD (i + 1) 0)) := by
      show some (pairD (1 + (i : Nat), (rsts es).getD ((1 : Int) + (i : Nat) - 1).toNat 0 - (rsts es).getD ((1 : Int) + (i : Nat)).toNat 0)) = _
      rw [show ((1 : Int) + (i : Nat) - 1).toNat = i by omega, show ((1 : Int) + (i : Nat)).toNat = i + 1 by omega]
    rw [e1] at k
    try simp only [u_asg, u_gN, u_ret, u_retN, u_skip, u_expr, u_ifs, u_c, u_op, u_neg, u_test, u_and, u_or, u_not, u_if, u_nil, u_cons, u_tup, u_lst, u_callP, u_call, u_b, u_chain, u_andV, u_addI, u_subI, u_mulI, u_divI, u_modI, u_powI, u_cmpI, u_eqI, u_eqS, u_eqB, u_abs, u_intI, u_intB, u_newT, u_newF, u_isN, u_notN, wVar, List.set_cons_zero, List.set_cons_succ, List.getElem?_cons_zero, List.getElem?_cons_succ, List.length_cons, List.length_nil, u_lc, u_for, u_r1, u_r2, u_r3, u_num, u_notV, u_yes, u_w0, u_w1, u_dput, u_get2, u_dget, u_prop, u_fld, u_setF, u_make, u_makeS, u_met, u_calO, u_orT, u_tupIt, u_dc, u_maxDd, u_dnew, u_tupi, ix_p0, ix_p1, wSl, woNone, woSome]
    rw [nx_a (by omega), nx_b (by omega), u_subI]
    exact ⟨by decide, acc, up_same, la, by rw [up_up]; exact k⟩
  · rw [show es.length - 1 = (rsts es).length - 1 by omega, fRow_map]
    refine endF hp ?_
    try simp only [u_asg, u_gN, u_ret, u_retN, u_skip, u_expr, u_ifs, u_c, u_op, u_neg, u_test, u_and, u_or, u_not, u_if, u_nil, u_cons, u_tup, u_lst, u_callP, u_call, u_b, u_chain, u_andV, u_addI, u_subI, u_mulI, u_divI, u_modI, u_powI, u_cmpI, u_eqI, u_eqS, u_eqB, u_abs, u_intI, u_intB, u_newT, u_newF, u_isN, u_notN, wVar, List.set_cons_zero, List.set_cons_succ, List.getElem?_cons_zero, List.getElem?_cons_succ, List.length_cons, List.length_nil, u_lc, u_for, u_r1, u_r2, u_r3, u_num, u_notV, u_yes, u_w0, u_w1, u_dput, u_get2, u_dget, u_prop, u_fld, u_setF, u_make, u_makeS, u_met, u_calO, u_orT, u_tupIt, u_dc, u_maxDd, u_dnew, u_tupi, ix_p0, ix_p1, wSl, woNone, woSome]
    refine ⟨_, rfl, fun a ha => ?_⟩
    refine make_led (rows := trows (rsts es)) rfl ha (trows_in (by omega)) (by rw [trows_len]; omega) fun gs h1 h2 h3 => ⟨rfl, _, up_same, ?_⟩
    rw [rm_up, rm_none ha]
    obtain rfl := Led.unique h1 (gsR_led _)
    exact fin_of q
theorem pr_rising : ∀ ds h Q X, S_rising ds h Q X → wr_rising (endsD Q X) (startD 3 ds) h := by
  rintro ds h Q X ⟨es, rfl, ok, q⟩
  have ok' := ok
  obtain ⟨l1, l2, hr⟩ := ok'
  have big := big_size
  have lr := rsts_len ok
  show wr_rising (endsD Q X) [some (tpI es), none, none] h
  unfold wr_rising
  ((try dsimp only); rw [u_seq]; (try simp only [u_asg, u_gN, u_ret, u_retN, u_skip, u_expr, u_ifs, u_c, u_op, u_neg, u_test, u_and, u_or, u_not, u_if, u_nil, u_cons, u_tup, u_lst, u_callP, u_call, u_b, u_chain, u_andV, u_addI, u_subI, u_mulI, u_divI, u_modI, u_powI, u_cmpI, u_eqI, u_eqS, u_eqB, u_abs, u_intI, u_intB, u_newT, u_newF, u_isN, u_notN, wVar, List.set_cons_zero, List.set_cons_succ, List.getElem?_cons_zero, List.getElem?_cons_succ, List.length_cons, List.length_nil, u_lc, u_for, u_r1, u_r2, u_r3, u_num, u_notV, u_yes, u_w0, u_w1, u_dput, u_get2, u_dget, u_prop, u_fld, u_setF, u_make, u_makeS, u_met, u_calO, u_orT, u_tupIt, u_dc, u_maxDd, u_dnew, u_tupi, ix_p0, ix_p1, wSl, woNone, woSome]))
  refine ⟨trivial, es, rfl, ok, fun rs hrs => ?_⟩
  obtain rfl := rests_one hrs (rsts_is ok)
  try simp only [u_asg, u_gN, u_ret, u_retN, u_skip, u_expr, u_ifs, u_c, u_op, u_neg, u_test, u_and, u_or, u_not, u_if, u_nil, u_cons, u_tup, u_lst, u_callP, u_call, u_b, u_chain, u_andV, u_addI, u_subI, u_mulI, u_divI, u_modI, u_powI, u_cmpI, u_eqI, u_eqS, u_eqB, u_abs, u_intI, u_intB, u_newT, u_newF, u_isN, u_notN, wVar, List.set_cons_zero, List.set_cons_succ, List.getElem?_cons_zero, List.getElem?_cons_succ, List.length_cons, List.length_nil, u_lc, u_for, u_r1, u_r2, u_r3, u_num, u_notV, u_yes, u_w0, u_w1, u_dput, u_get2, u_dget, u_prop, u_fld, u_setF, u_make, u_makeS, u_met, u_calO, u_orT, u_tupIt, u_dc, u_maxDd, u_dnew, u_tupi, ix_p0, ix_p1, wSl, woNone, woSome]
  simp only [u_lenT, List.length_map]
  refine ⟨⟨by decide, by decide, by omega, by omega⟩, fun p hp => ?_⟩
  rw [show (((es.length : Nat) : Int) - 1).toNat = es.length - 1 by omega]
  refine comp_pure (fRise (rsts es)) (fun _ => trivial) (by rw [intsD_len]; omega) ?_ ?_
  · intro x acc K hx la k
    obtain ⟨i, hi, rfl⟩ := mem_intsD hx
    have e1 : fRise (rsts es) (.int (1 + (i : Nat))) = if (rsts es).getD i 0 < (rsts es).getD (i + 1) 0 then some (.int (1 + (i : Nat))) else none := by
      show (if (rsts es).getD ((1 : Int) + (i : Nat) - 1).toNat 0 < (rsts es).getD ((1 : Int) + (i : Nat)).toNat 0 then _ else _) = _
      rw [show ((1 : Int) + (i : Nat) - 1).toNat = i by omega, show ((1 : Int) + (i : Nat)).toNat = i + 1 by omega]
    rw [e1] at k
    try simp only [u_asg, u_gN, u_ret, u_retN, u_skip, u_expr, u_ifs, u_c, u_op, u_neg, u_test, u_and, u_or, u_not, u_if, u_nil, u_cons, u_tup, u_lst, u_callP, u_call, u_b, u_chain, u_andV, u_addI, u_subI, u_mulI, u_divI, u_modI, u_powI, u_cmpI, u_eqI, u_eqS, u_eqB, u_abs, u_intI, u_intB, u_newT, u_newF, u_isN, u_notN, wVar, List.set_cons_zero, List.set_cons_succ, List.getElem?_cons_zero, List.getElem?_cons_succ, List.length_cons, List.length_nil, u_lc, u_for, u_r1, u_r2, u_r3, u_num, u_notV, u_yes, u_w0, u_w1, u_dput, u_get2, u_dget, u_prop, u_fld, u_setF, u_make, u_makeS, u_met, u_calO, u_orT, u_tupIt, u_dc, u_maxDd, u_dnew, u_tupi, ix_p0, ix_p1, wSl, woNone, woSome]
    rw [nx_a (by omega), nx_b (by omega)]
    try simp only [u_asg, u_gN, u_ret, u_retN, u_skip, u_expr, u_ifs, u_c, u_op, u_neg, u_test, u_and, u_or, u_not, u_if, u_nil, u_cons, u_tup, u_lst, u_callP, u_call, u_b, u_chain, u_andV, u_addI, u_subI, u_mulI, u_divI, u_modI, u_powI, u_cmpI, u_eqI, u_eqS, u_eqB, u_abs, u_intI, u_intB, u_newT, u_newF, u_isN, u_notN, wVar, List.set_cons_zero, List.set_cons_succ, List.getElem?_cons_zero, List.getElem?_cons_succ, List.length_cons, List.length_nil, u_lc, u_for, u_r1, u_r2, u_r3, u_num, u_notV, u_yes, u_w0, u_w1, u_dput, u_get2, u_dget, u_prop, u_fld, u_setF, u_make, u_makeS, u_met, u_calO, u_orT, u_tupIt, u_dc, u_maxDd, u_dnew, u_tupi, ix_p0, ix_p1, wSl, woNone, woSome]
    by_cases c : (rsts es).getD i 0 < (rsts es).getD (i + 1) 0
    · rw [if_pos (decide_eq_true c)]
      rw [if_pos c] at k
      exact ⟨acc, up_same, la, by rw [up_up]; exact k⟩
    · rw [if_neg (by rw [decide_eq_false c]; decide)]
      rw [if_neg c] at k
      simpa using k
  · rw [show es.length - 1 = (rsts es).length - 1 by omega, fRise_map]
    exact endF hp (fin_of q)
theorem pr_far (C : Addr) : ∀ ds h Q X, S_far C ds h Q X → wr_far C (endsD Q X) (startD 3 ds) h := by
  rintro ds h Q X ⟨es, rfl, ok, q⟩
  have ok' := ok
  obtain ⟨l1, l2, hr⟩ := ok'
  have big := big_size
  have lg := gsOf_len ok
  show wr_far C (endsD Q X) [some (tpI es), none, none] h
  simp only [wr_far, u_asg, u_gN, u_ret, u_retN, u_skip, u_expr, u_ifs, u_c, u_op, u_neg, u_test, u_and, u_or, u_not, u_if, u_nil, u_cons, u_tup, u_lst, u_callP, u_call, u_b, u_chain, u_andV, u_addI, u_subI, u_mulI, u_divI, u_modI, u_powI, u_cmpI, u_eqI, u_eqS, u_eqB, u_abs, u_intI, u_intB, u_newT, u_newF, u_isN, u_notN, wVar, List.set_cons_zero, List.set_cons_succ, List.getElem?_cons_zero, List.getElem?_cons_succ, List.length_cons, List.length_nil, u_lc, u_for, u_r1, u_r2, u_r3, u_num, u_notV, u_yes, u_w0, u_w1, u_dput, u_get2, u_dget, u_prop, u_fld, u_setF, u_make, u_makeS, u_met, u_calO, u_orT, u_tupIt, u_dc, u_maxDd, u_dnew, u_tupi, ix_p0, ix_p1, wSl, woNone, woSome]
  refine ⟨trivial, es, rfl, ok, ledD_isI, _, rfl, fun p hp => ?_⟩
  refine comp_pure (fFar (es.getD 0 0)) (fun _ => trivial) (by rw [List.length_map]; omega) ?_ ?_
  · intro x acc K hx la k
    obtain ⟨e, he, rfl⟩ := List.mem_map.mp hx
    have e1 : fFar (es.getD 0 0) (pairD e) = if 0 < e.2 ∧ es.getD 0 0 < e.1 then some (.int e.1) else none := rfl
    rw [e1] at k
    refine ⟨_, rfl, rfl, _, _, rfl, _, _, rfl, rfl, ?_⟩
    try simp only [u_asg, u_gN, u_ret, u_retN, u_skip, u_expr, u_ifs, u_c, u_op, u_neg, u_test, u_and, u_or, u_not, u_if, u_nil, u_cons, u_tup, u_lst, u_callP, u_call, u_b, u_chain, u_andV, u_addI, u_subI, u_mulI, u_divI, u_modI, u_powI, u_cmpI, u_eqI, u_eqS, u_eqB, u_abs, u_intI, u_intB, u_newT, u_newF, u_isN, u_notN, wVar, List.set_cons_zero, List.set_cons_succ, List.getElem?_cons_zero, List.getElem?_cons_succ, List.length_cons, List.length_nil, u_lc, u_for, u_r1, u_r2, u_r3, u_num, u_notV, u_yes, u_w0, u_w1, u_dput, u_get2, u_dget, u_prop, u_fld, u_setF, u_make, u_makeS, u_met, u_calO, u_orT, u_tupIt, u_dc, u_maxDd, u_dnew, u_tupi, ix_p0, ix_p1, wSl, woNone, woSome]
    by_cases c1 : 0 < e.2
    · rw [if_pos (decide_eq_true c1), t0 l1]
      try simp only [u_asg, u_gN, u_ret, u_retN, u_skip, u_expr, u_ifs, u_c, u_op, u_neg, u_test, u_and, u_or, u_not, u_if, u_nil, u_cons, u_tup, u_lst, u_callP, u_call, u_b, u_chain, u_andV, u_addI, u_subI, u_mulI, u_divI, u_modI, u_powI, u_cmpI, u_eqI, u_eqS, u_eqB, u_abs, u_intI, u_intB, u_newT, u_newF, u_isN, u_notN, wVar, List.set_cons_zero, List.set_cons_succ, List.getElem?_cons_zero, List.getElem?_cons_succ, List.length_cons, List.length_nil, u_lc, u_for, u_r1, u_r2, u_r3, u_num, u_notV, u_yes, u_w0, u_w1, u_dput, u_get2, u_dget, u_prop, u_fld, u_setF, u_make, u_makeS, u_met, u_calO, u_orT, u_tupIt, u_dc, u_maxDd, u_dnew, u_tupi, ix_p0, ix_p1, wSl, woNone, woSome]
      by_cases c2 : es.getD 0 0 < e.1
      · rw [if_pos (decide_eq_true c2)]
        rw [if_pos ⟨c1, c2⟩] at k
        exact ⟨acc, up_same, la, by rw [up_up]; exact k⟩
      · rw [if_neg (by rw [decide_eq_false c2]; decide)]
        rw [if_neg (fun z => c2 z.2)] at k
        simpa using k
    · rw [if_neg (by rw [decide_eq_false c1]; decide)]
      rw [if_neg (fun z => c1 z.1)] at k
      simpa using k
  · rw [fFar_map]
    exact endF hp (fin_of q)
theorem pr_leastW (C : Addr) : ∀ ds h Q X, S_leastW C ds h Q X → wr_leastW C (endsD Q X) (startD 2 ds) h := by
  rintro ds h Q X ⟨es, rfl, ok, q⟩
  show wr_leastW C (endsD Q X) [some (tpI es), none] h
  unfold wr_leastW
  ((try dsimp only); rw [u_seq]; (try simp only [u_asg, u_gN, u_ret, u_retN, u_skip, u_expr, u_ifs, u_c, u_op, u_neg, u_test, u_and, u_or, u_not, u_if, u_nil, u_cons, u_tup, u_lst, u_callP, u_call, u_b, u_chain, u_andV, u_addI, u_subI, u_mulI, u_divI, u_modI, u_powI, u_cmpI, u_eqI, u_eqS, u_eqB, u_abs, u_intI, u_intB, u_newT, u_newF, u_isN, u_notN, wVar, List.set_cons_zero, List.set_cons_succ, List.getElem?_cons_zero, List.getElem?_cons_succ, List.length_cons, List.length_nil, u_lc, u_for, u_r1, u_r2, u_r3, u_num, u_notV, u_yes, u_w0, u_w1, u_dput, u_get2, u_dget, u_prop, u_fld, u_setF, u_make, u_makeS, u_met, u_calO, u_orT, u_tupIt, u_dc, u_maxDd, u_dnew, u_tupi, ix_p0, ix_p1, wSl, woNone, woSome]))
  refine ⟨trivial, es, rfl, ok, trivial, gsOf es, rfl, gsOf_in ok, ?_⟩
  try simp only [u_asg, u_gN, u_ret, u_retN, u_skip, u_expr, u_ifs, u_c, u_op, u_neg, u_test, u_and, u_or, u_not, u_if, u_nil, u_cons, u_tup, u_lst, u_callP, u_call, u_b, u_chain, u_andV, u_addI, u_subI, u_mulI, u_divI, u_modI, u_powI, u_cmpI, u_eqI, u_eqS, u_eqB, u_abs, u_intI, u_intB, u_newT, u_newF, u_isN, u_notN, wVar, List.set_cons_zero, List.set_cons_succ, List.getElem?_cons_zero, List.getElem?_cons_succ, List.length_cons, List.length_nil, u_lc, u_for, u_r1, u_r2, u_r3, u_num, u_notV, u_yes, u_w0, u_w1, u_dput, u_get2, u_dget, u_prop, u_fld, u_setF, u_make, u_makeS, u_met, u_calO, u_orT, u_tupIt, u_dc, u_maxDd, u_dnew, u_tupi, ix_p0, ix_p1, wSl, woNone, woSome]
  rw [t0 ok.1]
  try simp only [u_asg, u_gN, u_ret, u_retN, u_skip, u_expr, u_ifs, u_c, u_op, u_neg, u_test, u_and, u_or, u_not, u_if, u_nil, u_cons, u_tup, u_lst, u_callP, u_call, u_b, u_chain, u_andV, u_addI, u_subI, u_mulI, u_divI, u_modI, u_powI, u_cmpI, u_eqI, u_eqS, u_eqB, u_abs, u_intI, u_intB, u_newT, u_newF, u_isN, u_notN, wVar, List.set_cons_zero, List.set_cons_succ, List.getElem?_cons_zero, List.getElem?_cons_succ, List.length_cons, List.length_nil, u_lc, u_for, u_r1, u_r2, u_r3, u_num, u_notV, u_yes, u_w0, u_w1, u_dput, u_get2, u_dget, u_prop, u_fld, u_setF, u_make, u_makeS, u_met, u_calO, u_orT, u_tupIt, u_dc, u_maxDd, u_dnew, u_tupi, ix_p0, ix_p1, wSl, woNone, woSome]
  by_cases c : es.getD 0 0 < nsum (gsOf es)
  · rw [if_pos c] at q
    have c' : es.getD 0 0 < (nds (getI (gsOf es)) (grt (gsOf es))).sum := c
    rw [if_pos (decide_eq_true c')]
    try simp only [u_asg, u_gN, u_ret, u_retN, u_skip, u_expr, u_ifs, u_c, u_op, u_neg, u_test, u_and, u_or, u_not, u_if, u_nil, u_cons, u_tup, u_lst, u_callP, u_call, u_b, u_chain, u_andV, u_addI, u_subI, u_mulI, u_divI, u_modI, u_powI, u_cmpI, u_eqI, u_eqS, u_eqB, u_abs, u_intI, u_intB, u_newT, u_newF, u_isN, u_notN, wVar, List.set_cons_zero, List.set_cons_succ, List.getElem?_cons_zero, List.getElem?_cons_succ, List.length_cons, List.length_nil, u_lc, u_for, u_r1, u_r2, u_r3, u_num, u_notV, u_yes, u_w0, u_w1, u_dput, u_get2, u_dget, u_prop, u_fld, u_setF, u_make, u_makeS, u_met, u_calO, u_orT, u_tupIt, u_dc, u_maxDd, u_dnew, u_tupi, ix_p0, ix_p1, wSl, woNone, woSome]
    exact ⟨by decide, fin_of q⟩
  · rw [if_neg c] at q
    have c' : ¬ es.getD 0 0 < (nds (getI (gsOf es)) (grt (gsOf es))).sum := c
    rw [if_neg (by rw [decide_eq_false c']; decide)]
    try simp only [u_asg, u_gN, u_ret, u_retN, u_skip, u_expr, u_ifs, u_c, u_op, u_neg, u_test, u_and, u_or, u_not, u_if, u_nil, u_cons, u_tup, u_lst, u_callP, u_call, u_b, u_chain, u_andV, u_addI, u_subI, u_mulI, u_divI, u_modI, u_powI, u_cmpI, u_eqI, u_eqS, u_eqB, u_abs, u_intI, u_intB, u_newT, u_newF, u_isN, u_notN, wVar, List.set_cons_zero, List.set_cons_succ, List.getElem?_cons_zero, List.getElem?_cons_succ, List.length_cons, List.length_nil, u_lc, u_for, u_r1, u_r2, u_r3, u_num, u_notV, u_yes, u_w0, u_w1, u_dput, u_get2, u_dget, u_prop, u_fld, u_setF, u_make, u_makeS, u_met, u_calO, u_orT, u_tupIt, u_dc, u_maxDd, u_dnew, u_tupi, ix_p0, ix_p1, wSl, woNone, woSome]
    exact ⟨by decide, fin_of q⟩
theorem nil_ints {f : Bool → Bool} {ns : List Int} {h : AH} {Q : KD} (q : Q (.bl (f ns.isEmpty)) h) : dEq f (lsI ns) (.lst []) h Q := by
  refine nil_lst (k := 1) (fl_lst (k := 0) fun x hx => ?_) (by decide) (by cases ns <;> exact q)
  obtain ⟨v, _, rfl⟩ := List.mem_map.mp hx
  exact fl_int v
theorem emp_f {ns : List Int} (h : ns ≠ []) : ns.isEmpty = false := by cases ns with
  | nil => exact absurd rfl h
  | cons _ _ => rfl
theorem pr_refus (C : Addr) : ∀ ds h Q X, S_refus C ds h Q X → wr_refus C (endsD Q X) (startD 4 ds) h := by
  rintro ds h Q X ⟨es, s, rfl, ok, q⟩
  show wr_refus C (endsD Q X) [some (tpI es), some (.bl s), none, none] h
  unfold wr_refus
  ((try dsimp only); rw [u_seq]; (try simp only [u_asg, u_gN, u_ret, u_retN, u_skip, u_expr, u_ifs, u_c, u_op, u_neg, u_test, u_and, u_or, u_not, u_if, u_nil, u_cons, u_tup, u_lst, u_callP, u_call, u_b, u_chain, u_andV, u_addI, u_subI, u_mulI, u_divI, u_modI, u_powI, u_cmpI, u_eqI, u_eqS, u_eqB, u_abs, u_intI, u_intB, u_newT, u_newF, u_isN, u_notN, wVar, List.set_cons_zero, List.set_cons_succ, List.getElem?_cons_zero, List.getElem?_cons_succ, List.length_cons, List.length_nil, u_lc, u_for, u_r1, u_r2, u_r3, u_num, u_notV, u_yes, u_w0, u_w1, u_dput, u_get2, u_dget, u_prop, u_fld, u_setF, u_make, u_makeS, u_met, u_calO, u_orT, u_tupIt, u_dc, u_maxDd, u_dnew, u_tupi, ix_p0, ix_p1, wSl, woNone, woSome]))
  refine ⟨trivial, es, rfl, ok, ?_⟩
  ((try dsimp only); rw [u_seq]; (try simp only [u_asg, u_gN, u_ret, u_retN, u_skip, u_expr, u_ifs, u_c, u_op, u_neg, u_test, u_and, u_or, u_not, u_if, u_nil, u_cons, u_tup, u_lst, u_callP, u_call, u_b, u_chain, u_andV, u_addI, u_subI, u_mulI, u_divI, u_modI, u_powI, u_cmpI, u_eqI, u_eqS, u_eqB, u_abs, u_intI, u_intB, u_newT, u_newF, u_isN, u_notN, wVar, List.set_cons_zero, List.set_cons_succ, List.getElem?_cons_zero, List.getElem?_cons_succ, List.length_cons, List.length_nil, u_lc, u_for, u_r1, u_r2, u_r3, u_num, u_notV, u_yes, u_w0, u_w1, u_dput, u_get2, u_dget, u_prop, u_fld, u_setF, u_make, u_makeS, u_met, u_calO, u_orT, u_tupIt, u_dc, u_maxDd, u_dnew, u_tupi, ix_p0, ix_p1, wSl, woNone, woSome]))
  refine ⟨Nat.zero_le _, nil_ints ?_⟩
  by_cases c : brk es = []
  · rw [c]
    simp only [List.isEmpty_nil, Bool.not_true, Bool.false_eq_true, if_false]
    ((try dsimp only); rw [u_seq]; (try simp only [u_asg, u_gN, u_ret, u_retN, u_skip, u_expr, u_ifs, u_c, u_op, u_neg, u_test, u_and, u_or, u_not, u_if, u_nil, u_cons, u_tup, u_lst, u_callP, u_call, u_b, u_chain, u_andV, u_addI, u_subI, u_mulI, u_divI, u_modI, u_powI, u_cmpI, u_eqI, u_eqS, u_eqB, u_abs, u_intI, u_intB, u_newT, u_newF, u_isN, u_notN, wVar, List.set_cons_zero, List.set_cons_succ, List.getElem?_cons_zero, List.getElem?_cons_succ, List.length_cons, List.length_nil, u_lc, u_for, u_r1, u_r2, u_r3, u_num, u_notV, u_yes, u_w0, u_w1, u_dput, u_get2, u_dget, u_prop, u_fld, u_setF, u_make, u_makeS, u_met, u_calO, u_orT, u_tupIt, u_dc, u_maxDd, u_dnew, u_tupi, ix_p0, ix_p1, wSl, woNone, woSome]))
    refine ⟨s, rfl, ?_⟩
    cases s with
    | false =>
      obtain ⟨e1, e2⟩ := ref_few c
      rw [e1, e2] at q
      simp only [Bool.not_false, if_true]
      try simp only [u_asg, u_gN, u_ret, u_retN, u_skip, u_expr, u_ifs, u_c, u_op, u_neg, u_test, u_and, u_or, u_not, u_if, u_nil, u_cons, u_tup, u_lst, u_callP, u_call, u_b, u_chain, u_andV, u_addI, u_subI, u_mulI, u_divI, u_modI, u_powI, u_cmpI, u_eqI, u_eqS, u_eqB, u_abs, u_intI, u_intB, u_newT, u_newF, u_isN, u_notN, wVar, List.set_cons_zero, List.set_cons_succ, List.getElem?_cons_zero, List.getElem?_cons_succ, List.length_cons, List.length_nil, u_lc, u_for, u_r1, u_r2, u_r3, u_num, u_notV, u_yes, u_w0, u_w1, u_dput, u_get2, u_dget, u_prop, u_fld, u_setF, u_make, u_makeS, u_met, u_calO, u_orT, u_tupIt, u_dc, u_maxDd, u_dnew, u_tupi, ix_p0, ix_p1, wSl, woNone, woSome]
      exact ⟨trivial, es, rfl, ok, by decide, fin_of q⟩
    | true =>
      simp only [Bool.not_true, Bool.false_eq_true, if_false]
      ((try dsimp only); rw [u_seq]; (try simp only [u_asg, u_gN, u_ret, u_retN, u_skip, u_expr, u_ifs, u_c, u_op, u_neg, u_test, u_and, u_or, u_not, u_if, u_nil, u_cons, u_tup, u_lst, u_callP, u_call, u_b, u_chain, u_andV, u_addI, u_subI, u_mulI, u_divI, u_modI, u_powI, u_cmpI, u_eqI, u_eqS, u_eqB, u_abs, u_intI, u_intB, u_newT, u_newF, u_isN, u_notN, wVar, List.set_cons_zero, List.set_cons_succ, List.getElem?_cons_zero, List.getElem?_cons_succ, List.length_cons, List.length_nil, u_lc, u_for, u_r1, u_r2, u_r3, u_num, u_notV, u_yes, u_w0, u_w1, u_dput, u_get2, u_dget, u_prop, u_fld, u_setF, u_make, u_makeS, u_met, u_calO, u_orT, u_tupIt, u_dc, u_maxDd, u_dnew, u_tupi, ix_p0, ix_p1, wSl, woNone, woSome]))
      refine ⟨trivial, es, rfl, ok, ?_⟩
      try simp only [u_asg, u_gN, u_ret, u_retN, u_skip, u_expr, u_ifs, u_c, u_op, u_neg, u_test, u_and, u_or, u_not, u_if, u_nil, u_cons, u_tup, u_lst, u_callP, u_call, u_b, u_chain, u_andV, u_addI, u_subI, u_mulI, u_divI, u_modI, u_powI, u_cmpI, u_eqI, u_eqS, u_eqB, u_abs, u_intI, u_intB, u_newT, u_newF, u_isN, u_notN, wVar, List.set_cons_zero, List.set_cons_succ, List.getElem?_cons_zero, List.getElem?_cons_succ, List.length_cons, List.length_nil, u_lc, u_for, u_r1, u_r2, u_r3, u_num, u_notV, u_yes, u_w0, u_w1, u_dput, u_get2, u_dget, u_prop, u_fld, u_setF, u_make, u_makeS, u_met, u_calO, u_orT, u_tupIt, u_dc, u_maxDd, u_dnew, u_tupi, ix_p0, ix_p1, wSl, woNone, woSome]
      refine ⟨Nat.zero_le _, nil_ints ?_⟩
      by_cases c2 : rise (rsts es) = []
      · obtain ⟨e1, e2⟩ := ref_far c c2
        rw [e1, e2] at q
        rw [c2]
        simp only [List.isEmpty_nil, Bool.not_true, Bool.false_eq_true, if_false]
        try simp only [u_asg, u_gN, u_ret, u_retN, u_skip, u_expr, u_ifs, u_c, u_op, u_neg, u_test, u_and, u_or, u_not, u_if, u_nil, u_cons, u_tup, u_lst, u_callP, u_call, u_b, u_chain, u_andV, u_addI, u_subI, u_mulI, u_divI, u_modI, u_powI, u_cmpI, u_eqI, u_eqS, u_eqB, u_abs, u_intI, u_intB, u_newT, u_newF, u_isN, u_notN, wVar, List.set_cons_zero, List.set_cons_succ, List.getElem?_cons_zero, List.getElem?_cons_succ, List.length_cons, List.length_nil, u_lc, u_for, u_r1, u_r2, u_r3, u_num, u_notV, u_yes, u_w0, u_w1, u_dput, u_get2, u_dget, u_prop, u_fld, u_setF, u_make, u_makeS, u_met, u_calO, u_orT, u_tupIt, u_dc, u_maxDd, u_dnew, u_tupi, ix_p0, ix_p1, wSl, woNone, woSome]
        exact ⟨trivial, es, rfl, ok, by decide, fin_of q⟩
      · obtain ⟨e1, e2⟩ := ref_rise c c2
        rw [e1, e2] at q
        rw [emp_f c2]
        simp only [Bool.not_false, if_true]
        try simp only [u_asg, u_gN, u_ret, u_retN, u_skip, u_expr, u_ifs, u_c, u_op, u_neg, u_test, u_and, u_or, u_not, u_if, u_nil, u_cons, u_tup, u_lst, u_callP, u_call, u_b, u_chain, u_andV, u_addI, u_subI, u_mulI, u_divI, u_modI, u_powI, u_cmpI, u_eqI, u_eqS, u_eqB, u_abs, u_intI, u_intB, u_newT, u_newF, u_isN, u_notN, wVar, List.set_cons_zero, List.set_cons_succ, List.getElem?_cons_zero, List.getElem?_cons_succ, List.length_cons, List.length_nil, u_lc, u_for, u_r1, u_r2, u_r3, u_num, u_notV, u_yes, u_w0, u_w1, u_dput, u_get2, u_dget, u_prop, u_fld, u_setF, u_make, u_makeS, u_met, u_calO, u_orT, u_tupIt, u_dc, u_maxDd, u_dnew, u_tupi, ix_p0, ix_p1, wSl, woNone, woSome]
        exact ⟨by decide, fin_of q⟩
  · obtain ⟨e1, e2⟩ := ref_brk (s := s) c
    rw [e1, e2] at q
    rw [emp_f c]
    simp only [Bool.not_false, if_true]
    try simp only [u_asg, u_gN, u_ret, u_retN, u_skip, u_expr, u_ifs, u_c, u_op, u_neg, u_test, u_and, u_or, u_not, u_if, u_nil, u_cons, u_tup, u_lst, u_callP, u_call, u_b, u_chain, u_andV, u_addI, u_subI, u_mulI, u_divI, u_modI, u_powI, u_cmpI, u_eqI, u_eqS, u_eqB, u_abs, u_intI, u_intB, u_newT, u_newF, u_isN, u_notN, wVar, List.set_cons_zero, List.set_cons_succ, List.getElem?_cons_zero, List.getElem?_cons_succ, List.length_cons, List.length_nil, u_lc, u_for, u_r1, u_r2, u_r3, u_num, u_notV, u_yes, u_w0, u_w1, u_dput, u_get2, u_dget, u_prop, u_fld, u_setF, u_make, u_makeS, u_met, u_calO, u_orT, u_tupIt, u_dc, u_maxDd, u_dnew, u_tupi, ix_p0, ix_p1, wSl, woNone, woSome]
    exact ⟨by decide, fin_of q⟩
theorem head_ix {ns : List Int} {h : AH} {Q : KD} (hn : ns ≠ []) : dIx (lsI ns) (.int 0) h Q = Q (.int (ns.headD 0)) h := by
  cases ns with
  | nil => exact absurd rfl hn
  | cons n ns => exact u_ixLd at0
theorem last_ix {ns : List Int} {h : AH} {Q : KD} (hn : ns ≠ []) : dIx (lsI ns) (.int (-1)) h Q = Q (.int (lastI ns)) h := by
  have l : 0 < ns.length := List.length_pos_iff.mpr hn
  have : lastI ns = ns.getD (ns.length - 1) 0 := by
    unfold lastI
    rw [List.getLast?_eq_getElem?, List.getD_eq_getElem?_getD]
  rw [this]
  exact u_ixLd (at_last l)
end DL
namespace DL
open PySem PySem.Spec L2 C8
/-! ### the laws' own judge -/
/-! the quotients, kept in a dict -/
/-- the dict holds rs from the place i on -/
def Holds (ds : Prs) (rs : List Int) (i n : Nat) : Prop := ∀ k, i ≤ k → k < n → hasI ds ((k : Int) + 1) = true ∧ getI ds ((k : Int) + 1) = rs.getD k 0
end DL
namespace DL
open PySem PySem.Spec L2 C8
/-! refusals -/
theorem fl_str {s : Str} (h : PyData.canLay0 (.str s) = true) : Fl (.str s) 0 := ⟨rfl, h, by rw [pd, PyData.depth]; exact Nat.le_refl _⟩
end DL
namespace DL
open PySem PySem.Spec L2 C8
/-! ### the laws' tables -/
end DL
namespace DL
open PySem PySem.Spec L2 C8
/-! ### repr of what is judged -/
theorem rp_str {s : Str} {n : Nat} (h : (PyData.str s).shown.length ≤ n) : Rp (.str s) 0 n := ⟨rfl, by rw [pd, PyData.showable], by rw [pd, PyData.depth]; exact Nat.le_refl _, by rw [pd]; exact h⟩
/-! ### near tables: how great the quotients are -/
end DL
/-! exceptions of own classes over any built-in one: made, with stored fields, raised -/
namespace DL
open PySem PySem.Spec L2 C8 PyProof.Rows
/-- what the written part says of an exception class -/
structure XCls (K : PySem.W.Frag) (C : Addr) : Prop where
  ex : ∃ (B newId initId : String) (tl bm bs sub : List Value) (nm q : Str) (N : Addr) (sn : List Str) (ab : Bool) (col : Option Bool) (dd : Option Addr) (k0 k1 k2 k3 k5 : Option Value),
    ExcBaseFacts B newId initId tl ∧ K.lookup C = some (excClassObj nm q C N bs bm true sn sub ab col dd k0 k1 k2 k3 k5 newId) ∧ PySem.W.excTail tl bm = true ∧ (∀ self, refuseLoop self "__setattr__" tl = pure ()) ∧ tl.contains (.type "object") = true
  sa : PySem.W.findIn K (.ref C) "__setattr__" = some (some (.builtin "object.__setattr__"))
  sub : PySem.W.subIn K (.ref C) (.type "BaseException") = some true
  ty : PySem.W.typeIn K (.ref C) = some (.type "type")
  kp : PySem.W.keepIn K (.ref C) = true
/-- its class data -/
theorem XCls.cd {K : PySem.W.Frag} {C : Addr} (T : XCls K C) : ∃ c, PySem.W.clsIn K C = some c ∧ c.hasDict = true ∧ c.mro.isEmpty = false ∧ c.mro.contains (.type "object") = true ∧ ∀ self, refuseLoop self "__setattr__" c.mro = pure () := by
  obtain ⟨B, ni, ii, tl, bm, bs, sb, nm, q, N, sn, ab, col, dd, k0, k1, k2, k3, k5, F, hl, ht, hr, ho⟩ := T.ex
  have t2 : PySem.W.excTail tl (.ref C :: bm) = true := ht
  exact ⟨_, by unfold PySem.W.clsIn; rw [hl] <;> rfl, rfl, rfl, (PySem.W.excTail_contains "object" _ t2).trans ho, fun self => PySem.W.excTail_pass self (hr self) _ t2⟩
section
open Builtin Builtin.ObjectAttr PySem.W PySem.Calls
variable {prog : Program} {w : World} {A : Around} {R : Result → Shared → Prop} {hp : Heap} {g : Array GenState} {d : Drawn} {t : Nat} {os : OsState} {K : PySem.W.Frag} {name : Str} {tk : Tok} {v : Value} {x C : Addr} {fv : Array Value}
/-- the walk of object.__setattr__ to the own dict -/
theorem xset_walk {od : Option Obj} {ox : Obj} (X : K.In hp) (T : XCls K C) (I : PySem.W.InstAt hp x ox C od) (ha : PySem.W.findIn K (.ref C) name = some none)
    (hq : wpAny (model prog w) A.in1 (storeInOwnDict (.ref x) (.ref C) (.str name tk) name v false) (fun fin s' => match fin with
      | Fin.done f => R (Except.ok f) s'
      | Fin.again c' => c'.quiet = true ∧ codeAny (model prog w) A c' R s') (fun e s' => R (.error e) s') ⟨hp, g, d, t, os⟩) :
    codeAny (model prog w) A (.call (.builtin "object.__setattr__") ⟨[.ref x, .str name tk, v], []⟩) R ⟨hp, g, d, t, os⟩ := by
  obtain ⟨cd, hcd, hh, he, hob, hr⟩ := T.cd
  have SF := F.store_object
  have isObj : PySem.W.Looks (model prog w) hp (isInstance (.ref x) (.type "object")) true := I.type.andThen (PySem.W.looks_mroIn X (by unfold PySem.W.mroIn; rw [hcd, Option.bind_some, if_neg (by rw [he]; decide), hob]))
  refine codeAny_call_builtin SF.slot.plain SF.entry (@PySem.W.check_slot (model prog w) _ _ ⟨hp, g, d, t, os⟩ "object.__setattr__" "object" "__setattr__" (.ref x) [.str name tk, v] [] _ SF.kind SF.split isObj (SF.args (.ref x) (.str name tk) v) ?_)
  have Lm : PySem.W.Looks (model prog w) hp (mroOf (.ref C)) cd.mro := (PySem.W.looks_clsIn X hcd).andThen .now
  have Ln : PySem.W.Looks (model prog w) hp (storeTaker? none) none := .now
  rw [PySem.W.osa_eq, refuse_eq]
  refine wpAny_bind (wpAny_bind (I.type.at (wpAny_bind (Lm.at ?_))))
  rw [hr (.ref x)]
  exact wpAny_pure (wpAny_bind (I.type.at (wpAny_bind ((PySem.W.looks_findIn X ha).at (wpAny_bind (Ln.at hq))))))
/-- the first field -/
theorem xset_new (X : K.In hp) (T : XCls K C) (hx : hp.get? x = some { cls := .ref C, data := .fields fv }) (ha : PySem.W.findIn K (.ref C) name = some none)
    (hq : ∀ h' tk' dx, (∀ b o, b ≠ x → hp.get? b = some o → h'.get? b = some o) → hp.objs.size ≤ dx → dx ≠ x → h'.get? x = some { cls := .ref C, dict := some dx, data := .fields fv } →
      h'.Ns1 dx (fun y => if y = name then some v else none) → R (.ok (.ret .none)) ⟨h', g, d, tk', os⟩) :
    codeAny (model prog w) A (.call (.builtin "object.__setattr__") ⟨[.ref x, .str name tk, v], []⟩) R ⟨hp, g, d, t, os⟩ := by
  refine xset_walk X T (ox := { cls := .ref C, data := .fields fv }) (od := none) ⟨hx, rfl, rfl, trivial⟩ ha ?_
  obtain ⟨cd, hcd, hh, _⟩ := T.cd
  have far : x ≠ hp.objs.size := Nat.ne_of_lt (Heap.lt_size hx)
  have Lc : PySem.W.Looks (model prog w) hp (classData C) cd := PySem.W.looks_clsIn X hcd
  obtain ⟨y1, y2, y3, y4, y5, y6, y7, y8, y9, y10, y11⟩ := cd
  dsimp only at hh
  subst hh
  unfold storeInOwnDict ownDictForStores
  repeat (first | with_reducible refine PySem.HandSPX.store_in_new ?_ ?_ | with_reducible refine wpAny_loadPart_at hx ?_ | with_reducible refine Lc.at ?_ | wp_step)
  · exact ⟨_, #[], _, (Heap.get?_update_ne _ _ _ _ far.symm).trans (Heap.get?_push_at rfl rfl), rfl, fun e he => absurd he (by simp), fun _ => rfl⟩
  · intro h2 tk2 hn2 hs2
    have hx2 : (hp.push { cls := .type "dict", data := .dict #[] }).get? x = some { cls := .ref C, data := .fields fv } := Heap.get?_push_of_some _ hx
    refine hq h2 tk2 hp.objs.size (fun b o hb ho => ?_) (Nat.le_refl _) far.symm ?_ hn2
    · exact (hs2.2 b (Nat.ne_of_lt (Heap.lt_size ho))).trans ((Heap.get?_update_ne _ _ _ _ hb).trans (Heap.get?_push_of_some _ ho))
    · exact (hs2.2 x far).trans (Heap.get?_update_self _ hx2 rfl)
/-- a further field -/
theorem xset_old {dx : Addr} {m0 : Str → Option Value} {nl : List Str} (X : K.In hp) (T : XCls K C) (hx : hp.get? x = some { cls := .ref C, dict := some dx, data := .fields fv }) (hns : hp.Ns1 dx m0) (hw : Within m0 nl) (hz : nl.length ≤ 1000) (ha : PySem.W.findIn K (.ref C) name = some none)
    (hq : ∀ h' tk', (∀ b o, b ≠ dx → hp.get? b = some o → h'.get? b = some o) → h'.Ns1 dx (fun y => if y = name then some v else m0 y) → R (.ok (.ret .none)) ⟨h', g, d, tk', os⟩) :
    codeAny (model prog w) A (.call (.builtin "object.__setattr__") ⟨[.ref x, .str name tk, v], []⟩) R ⟨hp, g, d, t, os⟩ := by
  obtain ⟨oD, eD, pD, hoD, hdD, _⟩ := hns.count hw
  refine xset_walk X T (ox := { cls := .ref C, dict := some dx, data := .fields fv }) (od := some oD) ⟨hx, rfl, rfl, hoD⟩ ha ?_
  obtain ⟨cd, hcd, hh, _⟩ := T.cd
  have Lc : PySem.W.Looks (model prog w) hp (classData C) cd := PySem.W.looks_clsIn X hcd
  obtain ⟨y1, y2, y3, y4, y5, y6, y7, y8, y9, y10, y11⟩ := cd
  dsimp only at hh
  subst hh
  unfold storeInOwnDict ownDictForStores
  repeat (first | with_reducible refine PySem.OEX.store_in_old hns hw hz ?_ | with_reducible refine wpAny_loadPart_at hx ?_ | with_reducible refine Lc.at ?_ | wp_step)
  intro h2 tk2 hn2 hs2
  exact hq h2 tk2 (fun b o hb ho => (hs2.2 b hb).trans ho) hn2
end
section
variable {X : Cx} {pins : List (Addr × Obj)} {σ : L2.St} {H : Hp} {s : Shared} {a C dx : Addr} {f : Str} {y : V} {u : Value} {fs : List (Str × V)} {Q : Unit → Shared → Prop} {E : Value → Shared → Prop} {A : Around}
/-- self.f = y, the first one -/
theorem xst_new (T : XCls X.K C) (I : Inv X pins σ H s) (e : H a = some (exo a C none)) (hno : PySem.W.findIn X.K (.ref C) f = some none) (ry : RelV y u)
    (h : ∀ dx s', H dx = none → dx ≠ a → Inv X pins σ (upd (upd H dx (exd dx [(f, y)])) a (exo a C (some dx))) s' → Q () s') : wpAny (model X.prog X.w) A (setAttr (.ref a) f u) Q E s := by
  obtain ⟨t1, ho⟩ := exo_at I.hok e
  obtain ⟨hp, g, d, t, os⟩ := s
  refine PySem.W.set_plain I.kIn (ox := { cls := .ref C, dict := none, data := .fields #[.ref t1, .none, .none, .none, .bool false, .none] }) (od := none) ⟨ho, rfl, rfl, trivial⟩ T.sa (xset_new I.kIn T ho hno fun h2 tk2 dx kp dn dne hx hn => ?_)
  have none_dx : H dx = none := I.hok.fresh dn
  have old_ne : ∀ {b : Addr} {o : Obj}, hp.get? b = some o → b ≠ dx := fun {b o} q => Nat.ne_of_lt (Nat.lt_of_lt_of_le (Heap.lt_size q) dn)
  have ne_a : ∀ {b : Addr}, H b = none → b ≠ a := fun {b} n z => by rw [z, e] at n; cases n
  have away : ∀ {b : Addr} {o : HO}, H b = some o → (exo a C none ≠ o) → upd (upd H dx (exd dx [(f, y)])) a (exo a C (some dx)) b = H b := fun {b o} q n => by
    rw [upd_ne (L2.at_ne e q n), upd_ne (ne_of_none q none_dx)]
  have UN : Un X.fs [] H (upd (upd H dx (exd dx [(f, y)])) a (exo a C (some dx))) hp h2 :=
    ⟨fun b o q n _ _ => kp b o (ne_a n) q, fun b o q n _ _ => ⟨o.slots, kp b o (ne_a n) q⟩, fun b o q n _ => by rw [upd_ne (ne_a n), upd_ne (old_ne q)]; exact n,
      fun b o q _ => (Classical.em (b = a)).elim (fun hb => ⟨_, hb.symm ▸ hx⟩) fun hb => ⟨o, kp b o hb q⟩, fun b xs q => (away q exo_tup).trans q, fun b o v q => (away q exo_frz).trans q, fun b ps q => ⟨#[], by rw [away q exo_tbl, q]; simp⟩⟩
  refine h dx _ none_dx dne (I.un (t' := tk2) UN fun b o q => ?_)
  by_cases hb : b = a
  · subst hb
    obtain rfl := Option.some.inj (upd_same.symm.trans q)
    exact exo_ok hx
  · rw [upd_ne hb] at q
    by_cases hd : b = dx
    · subst hd
      obtain rfl := Option.some.inj (upd_same.symm.trans q)
      exact exd_ok hn (relO_put (fs := []) ry fun g => True.intro)
    · rw [upd_ne hd] at q
      exact (I.hok b o q).stay (fun c v hc z => kp c v (hc.elim (fun r => by rw [r]; exact hb) (fun r => L2.at_ne e r exo_own)) z) (fun c hc => (away hc exo_own).trans hc) fun c xs hc => (away hc exo_tup).trans hc
/-- self.f = y, a further one -/
theorem xst_old (T : XCls X.K C) (I : Inv X pins σ H s) (e : H a = some (exo a C (some dx))) (ed : H dx = some (exd dx fs)) (hl : fs.length ≤ 900) (hno : PySem.W.findIn X.K (.ref C) f = some none) (ry : RelV y u)
    (h : ∀ s', Inv X pins σ (upd H dx (exd dx ((f, y) :: fs))) s' → Q () s') : wpAny (model X.prog X.w) A (setAttr (.ref a) f u) Q E s := by
  obtain ⟨t1, ho⟩ := exo_at I.hok e
  obtain ⟨mA, hns, rel⟩ := exd_at I.hok ed
  have wi := within_of rel
  obtain ⟨hp, g, d, t, os⟩ := s
  obtain ⟨oD, e1, e2, hoD, e3, e4⟩ := hns.count wi
  refine PySem.W.set_plain I.kIn (ox := { cls := .ref C, dict := some dx, data := .fields #[.ref t1, .none, .none, .none, .bool false, .none] }) (od := some oD) ⟨ho, rfl, rfl, hoD⟩ T.sa (xset_old I.kIn T ho hns wi (by rw [List.length_map]; omega) hno fun h2 tk2 kp hn => ?_)
  obtain ⟨o2, w1, w2, w3, w4⟩ := id hn
  exact h _ (I.write (t' := tk2) (x := dx) (e := dx) (o := exd dx ((f, y) :: fs)) (by rw [ed]; trivial) (.inl rfl) kp ⟨o2, w3⟩ (exd_ok hn (relO_put ry rel)))
end
/-- self.f = e, self an exception under way -/
def tXst (K : PySem.W.Frag) (f : Str) (to te : TE) : TS := fun D σ H => te σ H fun y H1 => to σ H1 fun x H2 => ∃ a C : Addr, x = .ref a ∧ XCls K C ∧ PySem.W.findIn K (.ref C) f = some none ∧
  ((H2 a = some (exo a C none) ∧ ∀ dx, H2 dx = none → dx ≠ a → D.nx σ (upd (upd H2 dx (exd dx [(f, y)])) a (exo a C (some dx)))) ∨
    ∃ (dx : Addr) (fs : List (Str × V)), H2 a = some (exo a C (some dx)) ∧ H2 dx = some (exd dx fs) ∧ fs.length ≤ 900 ∧ D.nx σ (upd H2 dx (exd dx ((f, y) :: fs))))
theorem ps_xst {X : Cx} {o e : Expr} {to te : TE} {f : Str} {p' pos : Pos} (ho : PE X o to) (he : PE X e te) (hs : swapsWith e (some (.Attribute o f p')) pos.line X.env = pure false := by rfl) : PS X (.Assign [.Attribute o f p'] e pos) (tXst X.K f to te) := by
  refine ⟨fun pins s σ H D I h => plainObj_wpAny_Assign_Attribute (thn (he.run pins s σ H _ I h) fun v s1 ⟨y, H1, I1, r1, q1⟩ => thn (ho.run pins s1 σ H1 _ I1 q1) fun u s2 ⟨x, H2, I2, r2, a, C, ex, T, hno, q⟩ => ?_) hs⟩
  subst ex
  obtain rfl : u = Value.ref a := r2
  rcases q with ⟨ea, q⟩ | ⟨dx, fs, ea, ed, hl, q⟩
  · exact xst_new T I2 ea hno r1 fun dx s' n ne J => ⟨σ, _, J, q dx n ne⟩
  · exact xst_old T I2 ea ed hl hno r1 fun s' J => ⟨σ, _, J, q⟩
end DL
/-! exceptions of own classes: inits that store their parameters; raise -/
namespace DL
open PySem PySem.Spec L2 C8 PyProof.Rows
/-- an init that stores its parameters -/
def spX (K : PySem.W.Frag) (ns : List Str) : Sp := fun vs H Q _ => ∃ (a C : Addr) (ys : List V), vs = .ref a :: ys ∧ ys.length = ns.length ∧ XCls K C ∧ (∀ f ∈ ns, PySem.W.findIn K (.ref C) f = some none) ∧ H a = some (exo a C none) ∧
  ∀ dx, H dx = none → dx ≠ a → Q .non (upd (upd H dx (exd dx (ns.zip ys).reverse)) a (exo a C (some dx)))
theorem spX_len {K : PySem.W.Frag} {ns : List Str} : ∀ vs H Q E, spX K ns vs H Q E → vs.length = ("self" :: ns : List Str).length := by
  rintro vs H Q E ⟨a, C, ys, rfl, l, _⟩
  simp [l]
section
variable {P : Program} {w : World} {K : PySem.W.Frag} {mg : Str → Option Value} {base : Heap} {st : Stmt} {f : Addr} {fd : FuncData} {qual p1 p2 : Str} {k : Nat} {q1 q2 q3 q4 q5 q6 q7 q8 : Pos}
theorem xinit1 (F : L2.Fun K "__init__" qual st f fd) (S : FnScope ["self", p1] ["self", p1] (defScope st)) (hv : Vis (defScope st) "self") (hv1 : Vis (defScope st) p1) (hb : defBody st = [.Assign [.Attribute (.Name "self" q1) p1 q2] (.Name p1 q3) q4])
    (hd : (p1 == ("__debug__" : Str)) = false := by decide) (hc : (p1 == ("__classdict__" : Str)) = false := by decide) : FnOk P w K mg base L2.CX0 (k + 1) f fd ["self", p1] (spX K [p1]) := by
  refine F.ok S spX_len fun cdv A outer s H vs Q E hr hs => ?_
  rw [hb]
  obtain ⟨a, C, ys, rfl, l, T, hf, ea, h⟩ := hs
  match ys, l with
  | [y], _ =>
    refine ⟨_, pss_one (ps_xst (pe_var (i := 0) rfl hv) (pe_var (i := 1) rfl hv1 hd hc)), ?_⟩
    exact ⟨y, rfl, .ref a, rfl, a, C, rfl, T, hf _ (by simp), .inl ⟨ea, fun dx n ne => h dx n ne⟩⟩
end
section
variable {X : Cx} {k : Nat} {f C : Addr} {fd : FuncData} {ps : List Str} {sp : Sp} {x : Str} {p pos : Pos} {e : Expr} {es : List Expr} {ta : TA} {bmB : List Value} {B newId initId : String}
/-- X(e, ..), its init walked -/
theorem pmk_x (T : XCls X.K C) (iC : PySem.W.findIn X.K (.ref C) "__init__" = some (some (.ref f))) (tI : PySem.W.typeIn X.K (.ref f) = some (.type "function")) (G : FnOk X.prog X.w X.K X.mg X.base L2.CX0 k f fd ps sp) (hr : Room (k + 1) X.A) (hb : Binds X.K fd ps []) (hg : Gl X x) (hm : X.mg x = some (.ref C)) (ha : PA X (e :: es) ta)
    (hdb : (x == ("__debug__" : Str)) = false := by decide) (he : starEach (e :: es) X.env = (false, eval e X.env) :: starEach es X.env := by rfl) (hpl : (backTo pos (starEach es X.env)).any (·.1) = false := by rfl) :
    PMk X (.Call (.Name x p) (e :: es) [] pos) (tMkO C sp [] ta) := by
  intro pins s σ H Q I h
  obtain ⟨B, ni, ii, tl, bm, bs, sb, nm, q, N, sn, ab, col, dd, k0, k1, k2, k3, k5, FB, hl, ht, _⟩ := T.ex
  refine wpAny_Call_Name_kw (ld_glob I hg hm ?_ hdb)
  refine PySem.W.callWith_K (h₀ := X.base) I.ok.mod.kin T.kp (thn (ha.run pos pins s σ H _ I h) fun us s1 ⟨vs, H1, I1, r1, hz, q1⟩ => ⟨I1.kIn, ?_⟩) he hpl
  show wpAny _ _ (call (.ref C) us) _ _ _
  obtain ⟨hp, g, dr, tk, os⟩ := s1
  have le1 : hp.objs.size ≤ hp.objs.size + 1 := Nat.le_succ _
  have hn : H1 (hp.objs.size + 1) = none := I1.hok.fresh le1
  have hq := q1 (hp.objs.size + 1) hn
  rw [List.append_nil] at hq
  have up2 : ∀ b o, hp.get? b = some o → ((hp.push (PySem.W.kdv_tup us)).push (PySem.HandSPX.excO C hp.objs.size)).get? b = some o := fun b o z => Heap.get?_push_of_some _ (Heap.get?_push_of_some _ z)
  have there : ((hp.push (PySem.W.kdv_tup us)).push (PySem.HandSPX.excO C hp.objs.size)).get? (hp.objs.size + 1) = some (PySem.HandSPX.excO C hp.objs.size) := by heap_get
  have I2 : Inv X pins σ (upd H1 (hp.objs.size + 1) (exo (hp.objs.size + 1) C none)) ⟨(hp.push (PySem.W.kdv_tup us)).push (PySem.HandSPX.excO C hp.objs.size), g, dr, tk, os⟩ := I1.laid (t' := tk) up2 le1 (exo_ok there)
  have r2 : Vals (V.ref (hp.objs.size + 1) :: vs) (Value.ref (hp.objs.size + 1) :: us) := .cons rfl r1
  have len2 : (Value.ref (hp.objs.size + 1) :: us).length = ps.length := r2.length.symm.trans (G.len _ _ _ _ hq)
  have small : us.length ≤ sizeLine := by rw [← Paired.length r1, sizeLine_eq]; omega
  have bd := hb _ (Value.ref (hp.objs.size + 1) :: us) I2.kIn (by rw [List.append_nil]; exact len2)
  rw [List.append_nil] at bd
  refine wpAny_call (PySem.HandSPX.call_own FB (fun Y => PySem.W.excTail_contains Y bm ht) (I1.kIn _ _ hl) (PySem.W.looks_findIn I1.kIn iC) (fun self => PySem.W.bind_fn I1.kIn self tI) small
    (codeAny_mono (G.run _ X.stack _ _ ⟨Value.ref (hp.objs.size + 1) :: us, []⟩ (Value.ref (hp.objs.size + 1) :: us) _ _ (fun _ _ _ => False) (hr.make C us []) (I2.env0.make C us []) bd r2 hq) fun r s' z => ?_))
  cases r with
  | error er => exact False.elim z
  | ok fl =>
    cases fl with
    | ret u =>
      obtain ⟨v, H2, os2, bare2, un2, hok2, rv, ev, d, fs, ea, ed, hd1, q2⟩ := z
      subst ev
      obtain ⟨h2, g2, d2, t2, os'⟩ := s'
      exact ⟨rv, mk_end (raises_own T.sub T.ty) I1 le1 up2 un2 hok2 os2 bare2 ea ed hd1 q2⟩
    | next => exact False.elim z
    | brk => exact False.elim z
    | cont => exact False.elim z
end
end DL
/-! raise, over data -/
namespace DL
open PySem PySem.Spec L2 C8 PyProof.Rows
def wRaise (C : Addr) (ns : List Str) (wl : WA) : WS := fun D ρ h => wl ρ h (fun ds h1 => ds.length = ns.length ∧ D.ex (.own C (ns.zip ds).reverse) h1) D.ex
section
variable (P : Program) (w : World) (K : PySem.W.Frag) (mg : Str → Option Value) (base : Heap)
/-- the exception class at C bears the name x; its init stores its parameters -/
structure XMk (x : Str) (C : Addr) (k : Nat) (ns : List Str) : Prop where
  ex : ∃ (f : Addr) (fd : FuncData) (ps : List Str), PySem.W.findIn K (.ref C) "__init__" = some (some (.ref f)) ∧ PySem.W.typeIn K (.ref f) = some (.type "function") ∧ FnOk P w K mg base L2.CX0 k f fd ps (spX K ns) ∧ Binds K fd ps []
  cls : XCls K C
  at_ : mg x = some (.ref C)
  no : ∀ f ∈ ns, PySem.W.findIn K (.ref C) f = some none
  sm : ns.length ≤ 1000
end
theorem Sim.growH {K : PySem.W.Frag} {F : Hp} {h : AH} {H : Hp} {p : Addr} (S : Sim K F h H) (e : H p = none) (u : HO) : Sim K F h (upd H p u) := by
  obtain ⟨e1, e2⟩ := S.free e
  refine ⟨fun a o q => ?_, fun a o q => ?_⟩
  · rw [upd_ne (fun z => by rw [z, e1] at q; cases q)]; exact S.fz _ _ q
  · rw [upd_ne (fun z => by rw [z, e2] at q; cases q)]; exact S.ob _ _ q
theorem RepF.app {K : PySem.W.Frag} {F : Hp} : ∀ {xs ys : List (Str × D)} {vs ws : List (Str × V)}, RepF K F xs vs → RepF K F ys ws → RepF K F (xs ++ ys) (vs ++ ws)
  | _, _, _, _, .nil, s => s
  | _, _, _, _, .cons h t, s => .cons h (RepF.app t s)
theorem RepF.rev {K : PySem.W.Frag} {F : Hp} : ∀ {xs : List (Str × D)} {vs : List (Str × V)}, RepF K F xs vs → RepF K F xs.reverse vs.reverse
  | _, _, .nil => .nil
  | _, _, .cons (k := k) h t => by rw [List.reverse_cons, List.reverse_cons]; exact RepF.app (RepF.rev t) (.cons h .nil)
theorem RepF.zip {K : PySem.W.Frag} {F : Hp} : ∀ (ns : List Str) {xs : List D} {vs : List V}, Reps K F xs vs → RepF K F (ns.zip xs) (ns.zip vs)
  | [], _, _, _ => .nil
  | _ :: _, _, _, .nil => .nil
  | n :: ns, _, _, .cons h t => .cons h (RepF.zip ns t)
section
variable {X : Cx} {E : XK} {gz : Bool} {k j : Nat} {C : Addr} {x : Str} {ns : List Str} {e : Expr} {es : List Expr} {wl : WA} {p pos pos' : Pos}
theorem as_raise (c : Cg gz X E k) (M : XMk X.prog X.w X.K X.mg X.base x C j ns) (hj : j + 1 ≤ k) (hl : AA X E (e :: es) wl) (tk : Takes X (fun cls d _ H => E cls d H) := by exact takes_of rfl rfl rfl rfl) (hg : Gl X x := by rfl)
    (hdb : (x == ("__debug__" : Str)) = false := by decide) (he : starEach (e :: es) X.env = (false, eval e X.env) :: starEach es X.env := by rfl) (hpl : (backTo pos (starEach es X.env)).any (·.1) = false := by rfl) :
    AS X E (.Raise (some (.Call (.Name x p) (e :: es) [] pos)) none pos') (wRaise C ns wl) := by
  obtain ⟨f, fd, ps, iC, tI, G, B⟩ := M.ex
  refine ⟨PS.imp (ps_raise c.calm tk (pmk_x M.cls iC tI G (c.room.mono hj) B hg M.at_ hl.run hdb he hpl)) fun D σ H hq => ?_, fun D D' ρ h hD q => hl.mo _ _ _ _ _ _ (fun ds h1 z => ⟨z.1, hD.ex _ _ z.2⟩) hD.ex q⟩
  obtain ⟨F, ρ, h, S, R, q⟩ := hq
  refine ⟨F, ρ, h, S, R, hl.mo _ _ _ _ _ _ (fun ds h1 z => ?_) (fun _ _ z => z) q⟩
  obtain ⟨l, z⟩ := z
  intro F1 H1 vs e1 S1 r
  have lv : vs.length = ns.length := by rw [← r.length]; exact l
  refine ⟨by rw [lv]; exact M.sm, fun a na => ?_⟩
  rw [List.append_nil]
  refine ⟨a, C, vs, rfl, lv, M.cls, M.no, upd_same, fun dx nd ne => ⟨rfl, dx, _, upd_same, by rw [upd_ne ne, upd_same], by rw [upd_ne ne] at nd; exact nd, ?_⟩⟩
  have nd1 : H1 dx = none := by rw [upd_ne ne] at nd; exact nd
  have eH : upd (L2.del (upd (upd (upd H1 a (exo a C none)) dx (exd dx (ns.zip vs).reverse)) a (exo a C (some dx))) a) dx (.xd (ns.zip vs).reverse) = upd H1 dx (.xd (ns.zip vs).reverse) := by
    funext b
    by_cases h1 : b = dx
    · subst h1; rw [upd_same, upd_same]
    · rw [upd_ne h1, upd_ne h1]
      by_cases h2 : b = a
      · subst h2; rw [L2.del_same, na]
      · rw [L2.del_ne h2, upd_ne h2, upd_ne h1, upd_ne h2]
  rw [eH]
  exact z F1 _ _ _ e1 (S1.growH nd1 _) ⟨rfl, .inr ⟨dx, _, rfl, upd_same, RepF.rev (RepF.zip ns r)⟩⟩
end
theorem u_raise {C : Addr} {ns : List Str} {wl : WA} {D : EndsD} {ρ : EnvD} {h : AH} : wRaise C ns wl D ρ h = wl ρ h (fun ds h1 => ds.length = ns.length ∧ D.ex (.own C (ns.zip ds).reverse) h1) D.ex := rfl
end DL
/-! try .. except (A, B, C) as e: y = e, the exception kept behind it -/
namespace DL
open PySem PySem.Spec L2 C8 PyProof.Rows
/-- the class test of an except clause -/
def XTest (X : Cx) (t : Expr) (ok : Value → Option Bool) : Prop :=
  ∀ (a : Addr) (pn : List (Addr × Obj)) (σ : L2.St) (H : Hp) (s : Shared) (cls : Value) (b : Bool) (E : Value → Shared → Prop) (Q : Bool → Shared → Prop), Inv (X.suite a pn) [] σ H s → PySem.W.Looks (model X.prog X.w) s.heap (typeOf (.ref a)) cls → ok cls = some b →
    (∀ h', (∀ q o, s.heap.get? q = some o → h'.get? q = some o) → Q b { s with heap := h' }) → wpAny (model X.prog X.w) (X.A.mark (some (.ref a))) (eval t X.env) (fun c s1 => wpAny (model X.prog X.w) (X.A.mark (some (.ref a))) (excMatches (.ref a) c) Q E s1) E s
theorem xt_name {X : Cx} {a1 a2 : Addr} {pn : List (Addr × Obj)} {σ : L2.St} {H : Hp} {s : Shared} {x : Str} {c : Value} {np : Pos} {Q : Value → Shared → Prop} {E : Value → Shared → Prop} (hc : Names X x c) (I : Inv (X.suite a1 pn) [] σ H s) (q : Q c s) :
    wpAny (model X.prog X.w) (X.A.mark (some (.ref a1))) (eval (.Name x np) X.env) Q E s := by
  obtain ⟨hg, hd, hm | ⟨hm, hv, hn⟩⟩ := hc
  · exact ld_glob (X := X.suite a1 pn) I hg hm q hd
  · exact ld_blt (X := X.suite a1 pn) I hg hm hv q hn hd
theorem xt_three {X : Cx} {x1 x2 x3 : Str} {c1 c2 c3 : Value} {p1 p2 p3 tpos : Pos} {kk : Nat} (n1 : Names X x1 c1) (n2 : Names X x2 c2) (n3 : Names X x3 c3) :
    XTest X (.Tuple [.Name x1 p1, .Name x2 p2, .Name x3 p3] kk tpos) (fun cls => PySem.W.exmAny X.K cls [c1, c2, c3]) := fun a pn σ H s cls b E Q I LT e q => by
  refine wpAny_Tuple (wpAny_items_cons (xt_name (a2 := a) n1 I (wpAny_items_cons (xt_name (a2 := a) n2 I (wpAny_items_cons (xt_name (a2 := a) n3 I (wpAny_items_nil ⟨by size_fits, ?_⟩)))))))
  have kp : ∀ y o, s.heap.get? y = some o → (s.heap.push { cls := .type "tuple", data := .seq [c1, c2, c3].toArray }).get? y = some o := fun _ _ z => Heap.get?_push_of_some _ z
  exact (PySem.W.exm_tup3 (I.kIn.keeps kp) (LT.keeps kp) (Heap.get?_push_size s.heap rfl) e).here (q _ kp)
theorem flying_keep {base h h' : Heap} {l : List Env} {e : Addr} {Z : Obj → Prop} (x : HandSPX.FlyingZ base l e Z h) (k : ∀ b o, h.get? b = some o → h'.get? b = some o) : HandSPX.FlyingZ base l e Z h' := by
  obtain ⟨f1, f2, f3, oe, vs, T, oT, ts, he, hz, hd, h1, hn, hne, hT, hdT, h3⟩ := x
  exact ⟨fun b o q => k b o (f1 b o q), f2, f3.of_keeps fun b o q _ => ⟨o, k b o q, rfl⟩, oe, vs, T, oT, ts, k _ _ he, hz, hd, h1, hn, hne, k _ _ hT, hdT, h3⟩
/-- an object of the heap that is new since the entry is known from now on -/
theorem inv_track {X : Cx} {pins : List (Addr × Obj)} {σ : L2.St} {H : Hp} {s : Shared} {a : Addr} {o : HO} (I : Inv X pins σ H s) (n : H a = none) (n0 : X.s_0.heap.get? a = none) (nL : a ≠ X.env.locals) (nC : ∀ x c, X.env.cells.lookup x = some c → c ≠ a) (nP : ∀ p ∈ X.pn ++ pins, p.1 ≠ a)
    (new : ObjOk X.prog X.w (upd H a o) s.heap a o) : Inv X pins σ (upd H a o) s := by
  have away : ∀ {b : Addr} {u : HO}, H b = some u → upd H a o b = H b := fun {b u} q => upd_ne (ne_of_none q n)
  refine ⟨I.ok, I.os, I.bare, ⟨I.base.keep, I.base.slot, fun b u e q hx => ?_, I.base.there, fun b xs q => ?_, fun b u xs q => ?_, fun b ps q => ?_⟩, I.loc, I.cell, ?_, fun x c e => ?_, fun p hp => ?_, fun b u e => ?_, I.len⟩
  · rw [upd_ne (fun z => by rw [z, n0] at e; cases e)]
    exact I.base.free b u e q hx
  · have z := I.base.tups b xs q
    rw [away z]; exact z
  · have z := I.base.frzs b u xs q
    rw [away z]; exact z
  · obtain ⟨m, z⟩ := I.base.tbls b ps q
    exact ⟨m, by rw [away z]; exact z⟩
  · rw [upd_ne (Ne.symm nL)]; exact I.free
  · rw [upd_ne (nC x c e)]; exact I.freeC x c e
  · obtain ⟨h1, h2, h3, h4, h5⟩ := I.pin p hp
    exact ⟨h1, by rw [upd_ne (nP p hp)]; exact h2, h3, h4, h5⟩
  · by_cases hb : b = a
    · subst hb
      obtain rfl := Option.some.inj (upd_same.symm.trans e)
      exact new
    · rw [upd_ne hb] at e
      exact (I.hok b u e).stay (fun c v _ z => z) (fun c z => (away z).trans z) fun c xs z => (away z).trans z
theorem exV_ok {P : Program} {w : World} {H : Hp} {h : Heap} {a C : Addr} {d : Option Addr} {oe : Obj} {vs : Array Value} (e : h.get? a = some oe) (z : Zc (.ref C) d oe) (hd : oe.data = .fields vs) : ObjOk P w H h a (exV a C d) :=
  ⟨⟨oe, vs, e, z, hd⟩, ⟨oe, e⟩, fun _ _ ⟨o, v, q, r⟩ k => ⟨o, v, k o q, r⟩⟩
/-- what the clause wishes: slot i is the clause's name, slot j keeps the exception -/
def wKeep (ok : Value → Option Bool) (i j : Nat) (Wout : WX) (D : Ends) : WX := fun cls d σ H =>
  ∃ b, ok cls = some b ∧ (b = true → ∃ C, cls = .ref C ∧ ∀ a, H a = none → D.nx (((σ.set i (some (.ref a))).set j (some (.ref a))).set i none) (upd H a (exV a C d))) ∧ (b = false → Wout cls d σ H)
section
variable {X : Cx} {n : Str} {i j : Nat} {body suite : List Stmt} {b₀ : Stmt} {te : Expr} {pos pos' : Pos} {tb : WX → TS} {Wout : WX} {ok : Value → Option Bool}
theorem ps_try_keep (hex : X.ex = []) (hs : X.stack = X.env :: X.outer) (hf : X.env.frame = some X.env.locals) (hN : X.N.Nodup) (hi : X.N[i]? = some n) (hln : X.env.kindOf n = some .local) (ht : XTest X te ok) (tk : Takes X Wout)
    (hb : ∀ (W : WX) (pn : List (Addr × Obj)) (xe : Value → Shared → Prop), Takes (X.tr pn xe) W → PassesOwn (model X.prog X.w) X.A X.env xe → PSs (X.tr pn xe) body (tb W))
    (hsu : ∀ (a : Addr) (pn : List (Addr × Obj)), PSs (X.suite a pn) (b₀ :: suite) (fun D σ H => ∃ v, σ[i]? = some (some v) ∧ D.nx (σ.set j (some v)) H)) (hij : i < X.N.length) :
    PS X (.Try body [.ExceptHandler (some te) (some n) (b₀ :: suite) pos'] [] [] pos) (fun D σ H => tb (wKeep ok i j Wout D) D σ H) := by
  refine ⟨fun pins s σ H D I h => ?_⟩
  have okX := I.ok
  have hfr : X.A.frames = some (X.env :: X.outer) := by rw [okX.frames, hs]
  have hloc : Loc X.env.scope n := .inl hln
  refine wpAny_Try_except (wpAny_mono ((hb (wKeep ok i j Wout D) (X.pn ++ pins) (fun e s₁ => wpAny (model X.prog X.w) X.A (noteFrame e X.env) (fun _ s₂ => wpAny (model X.prog X.w) X.A (setFlight e none) (fun _ s₃ =>
    wpAny (model X.prog X.w) X.A (handleBy e X.env [.ExceptHandler (some te) (some n) (b₀ :: suite) pos']) (SP X pins D) X.xe s₃) X.xe s₂) X.xe s₁) (fun u s' xx => ?_) PassesOwn.looking).run [] s σ H D (I.toTry _) h) (fun f s1 hsp => ?_) (fun e s1 he => he))
  · obtain ⟨a, B, sI, pins', σ', H', cls, d, rfl, J', nb, up, sky, na, os, ag, b, hb1, hyes, hno⟩ := xx
    have J : Inv X pins σ' H' sI := J'.ofTry okX
    have sky2 : Sky B (X.env :: X.outer) a (Zc cls d) X.env.locals s'.heap := by rw [← hs]; exact sky
    show wpAny (model X.prog X.w) X.A (noteFrame (.ref a) X.env) _ _ _
    refine Sky.land Zc.steady hfr hf sky2 fun h3 fl3 up3 => ?_
    have J3 : Inv X pins σ' H' { s' with heap := h3 } := J.landed nb fl3.1 (up.trans up3) os ag
    obtain ⟨oe3, vs3, he3, hz3, hd3⟩ := fl3.there
    have outFr : ∀ {h : Heap} {o : Obj} {vs : Array Value}, h.FunFrames B (X.env :: X.outer) → h.get? a = some o → o.data = .fields vs → a ∉ frs (X.env :: X.outer) := fun {h o vs} ff e dd hm => by
      obtain ⟨_, o2, e2, nf2⟩ := ff.mem hm
      rw [e] at e2
      obtain rfl := Option.some.inj e2
      exact nf2 _ dd
    have nfr := outFr fl3.2.2.1 he3 hd3
    have nL : a ≠ X.env.locals := fun z => nfr (List.mem_filterMap.mpr ⟨X.env, List.mem_cons_self, by rw [hf, z]⟩)
    have nF : a ∉ X.fs := fun hm => by
      obtain ⟨e, he, q⟩ := List.mem_filterMap.mp hm
      exact nfr (List.mem_filterMap.mpr ⟨e, List.mem_cons_of_mem _ he, q⟩)
    have nI : sI.heap.get? a = none := by
      cases q : sI.heap.get? a with
      | none => rfl
      | some o =>
        have z := nb a o q (by rw [hs]; exact nfr)
        rw [fl3.2.1] at z; cases z
    have S3 := J3.suite he3 hd3 na nL nF
    have LT : PySem.W.Looks (model X.prog X.w) h3 (typeOf (.ref a)) cls := fun A Q E s k q => wpAny_typeOf_ref (k _ _ he3) (by rw [hz3.1]; exact q)
    refine wpAny_handleBy_cons (codeAny_handlers_test (ht a _ σ' H' _ cls b _ _ S3 LT hb1 fun h4 kp => ?_)) (by intro q; cases q)
    have fl4 := flying_keep fl3 kp
    have up4 := (up.trans up3).trans (Heap.UpToSlots.of_keeps kp)
    cases b with
    | true =>
      obtain ⟨C, hC, go1⟩ := hyes rfl
      subst hC
      refine codeAny_handlers_suite_as (HandSPX.lands_againZ fl4 fun h5 fl5 up5 => ?_)
      have J5 : Inv X pins σ' H' { s' with heap := h5 } := J.landed nb fl5.1 (up4.trans up5) os ag
      obtain ⟨oe5, vs5, he5, hz5, hd5⟩ := fl5.there
      have S5 := J5.suite he5 hd5 na nL nF
      refine store_ok (X := X.suite a ((a, oe5) :: (X.pn ++ pins))) (v := .ref a) S5 hN hi hloc rfl (fun s6 S6 => ?_) (.inr hln)
      refine wpAny_mono ((hsu a ((a, oe5) :: (X.pn ++ pins))).run [] s6 _ H' { nx := fun σ7 H7 => σ7 = (σ'.set i (some (.ref a))).set j (some (.ref a)) ∧ H7 = H', rt := fun _ _ => False } S6 ⟨.ref a, ?_, rfl, rfl⟩) (fun f s7 hsp => ?_) (fun _ _ z => False.elim z)
      · exact List.getElem?_set_self (by rw [J.len]; exact hij)
      · cases f with
        | next =>
          obtain ⟨σ7, H7, S7, rfl, rfl⟩ := hsp
          obtain ⟨hpin, _⟩ := S7.pin (a, oe5) (List.mem_append_left _ List.mem_cons_self)
          have J7 : Inv X pins _ H7 s7 := S7.unsuite okX
          have n0 : X.s_0.heap.get? a = none := by
            cases q : X.s_0.heap.get? a with
            | none => rfl
            | some o =>
              obtain ⟨o2, z⟩ := J.base.there a o q (by rw [hex]; simp)
              rw [nI] at z; cases z
          have J8 := inv_track (o := exV a C d) J7 na n0 nL (fun x c e z => by
              obtain ⟨v, o, ho, hdc⟩ := J7.cell x c e
              rw [z, hpin] at ho
              obtain rfl := Option.some.inj ho
              rw [hd5] at hdc; cases hdc) (fun p hp z => by
              have y := (J.pin p hp).1
              rw [z, nI] at y; cases y) (exV_ok hpin hz5 hd5)
          exact gone_ok J8 hN hi hln fun s8 J9 => ⟨_, _, J9, go1 a na⟩
        | brk => obtain ⟨_, _, _, z⟩ := hsp; exact z.elim
        | cont => obtain ⟨_, _, _, z⟩ := hsp; exact z.elim
        | ret u => obtain ⟨_, _, _, _, _, z⟩ := hsp; exact z.elim
    | false =>
      show wpAny _ X.A (handleBy (.ref a) X.env []) _ _ _
      refine wpAny_handleBy_nil ?_
      obtain ⟨k1, k2, k3, oe, vs, T, oT, ts, he, hz, hd, h1, hr⟩ := id fl4
      unfold PySem.passOn
      refine wpAny_bind (wpAny_field he hd h1 ?_)
      rw [if_neg (show ¬ ((Value.ref T == Value.none) = true) from by simp)]
      have out : wpAny (model X.prog X.w) X.A (setFlight (.ref a) X.env.frame) (fun _ s5 => wpAny (model X.prog X.w) X.A (throw (.ref a) : Sem Flow) (SP X pins D) X.xe s5) X.xe { s' with heap := h4 } := by
        rw [hf]
        exact HandSPX.setFlight_upZ fl4 fun h5 hh5 up5 => wpAny_throw (tk _ _ ⟨a, B, sI, pins, σ', H', cls, d, rfl, J, nb, up4.trans up5, .inr (.inr (by rw [hs]; exact hh5)), na, os, ag, hno rfl⟩)
      first
        | exact wpAny_bind (wpAny_pure (wpAny_bind out))
        | exact wpAny_bind out
  · cases f with
    | next => obtain ⟨σ2, H2, K2, q⟩ := hsp; exact wpAny_execs_nil ⟨σ2, H2, K2.ofTry okX, q⟩
    | brk => obtain ⟨σ2, H2, K2, q⟩ := hsp; exact ⟨σ2, H2, K2.ofTry okX, q⟩
    | cont => obtain ⟨σ2, H2, K2, q⟩ := hsp; exact ⟨σ2, H2, K2.ofTry okX, q⟩
    | ret u => obtain ⟨v, σ2, H2, K2, r, q⟩ := hsp; exact ⟨v, σ2, H2, K2.ofTry okX, r, q⟩
end
end DL
namespace DL
open PySem PySem.Spec L2 C8 PyProof.Rows
/-- what is done with an exception of the classes errs: slot j of an empty frame keeps it -/
def exH (errs : List Addr) (n j : Nat) (D : EndsD) : KX := fun x h => match x with
  | .own C fs => C ∈ errs ∧ D.nx ((List.replicate n none).set j (some (.xob C fs))) h
  | .blt _ => False
def wTry (errs : List Addr) (n j : Nat) (wb : WS) : WS := fun D ρ h => wb { D with ex := exH errs n j D } ρ h
/-- an exception's dict is no object that may change -/
theorem xd_free {K : PySem.W.Frag} {F : Hp} {h : AH} {H : Hp} {dd : Addr} {vs : List (Str × V)} (S : Sim K F h H) (e : H dd = some (.xd vs)) : h dd = none := by
  cases q : h dd with
  | none => rfl
  | some o =>
    obtain ⟨_, u, hu, r⟩ := S.ob _ _ q
    rw [e] at hu
    obtain rfl := Option.some.inj hu
    cases o with
    | lst _ => obtain ⟨_, z, _⟩ := r; cases z
    | dK _ => obtain ⟨_, z, _⟩ := r; cases z
    | dT _ => obtain ⟨_, z, _⟩ := r; cases z
    | ins _ _ => obtain ⟨_, _, z, _⟩ := r; cases z
    | lck _ => obtain ⟨_, _, z, _⟩ := r; cases z
    | tab _ => obtain ⟨_, z, _⟩ := r; cases z
/-- an object that stands in the heap and doesn't change is known from now on -/
theorem Sim.know {K : PySem.W.Frag} {F : Hp} {h : AH} {H : Hp} {p : Addr} {u : HO} (S : Sim K F h H) (e : H p = some u) (n : h p = none) : Ext F (upd F p u) ∧ Sim K (upd F p u) h H := by
  have ext : Ext F (upd F p u) := fun a o q => by
    by_cases c : a = p
    · subst c
      have z := S.fz _ _ q
      rw [e] at z
      rw [upd_same]; exact z
    · rw [upd_ne c]; exact q
  refine ⟨ext, fun a o q => ?_, fun a o q => ?_⟩
  · by_cases c : a = p
    · subst c
      rw [upd_same] at q
      rw [← q]; exact e
    · rw [upd_ne c] at q; exact S.fz _ _ q
  · have c : a ≠ p := fun z => by rw [z, n] at q; cases q
    obtain ⟨f, w, hw, r⟩ := S.ob _ _ q
    exact ⟨by rw [upd_ne c]; exact f, w, hw, r.ext ext⟩
/-- the kept exception, over data -/
theorem keep_sim {K : PySem.W.Frag} {F : Hp} {h : AH} {H : Hp} {C a : Addr} {d : Option Addr} {fs : List (Str × D)} {cls : Value} (S : Sim K F h H) (r : RepX K F H (.own C fs) cls d) (na : H a = none) :
    ∃ F2, Ext F F2 ∧ Sim K F2 h (upd H a (exV a C d)) ∧ Rep K F2 (.xob C fs) (.ref a) := by
  obtain ⟨_, ⟨rfl, rfl⟩ | ⟨dd, vs, rfl, hd, rf⟩⟩ := r
  · exact ⟨_, ext_upd (S.free na).1, S.newF na _, .xob0 upd_same⟩
  · obtain ⟨e1, S1⟩ := S.know hd (xd_free S hd)
    have e2 := ext_upd (o := exV a C (some dd)) (S1.free na).1
    exact ⟨_, e1.trans e2, S1.newF na _, .xob upd_same (e2 _ _ upd_same) ((rf.ext e1).ext e2)⟩
section
variable {X : Cx} {E : XK} {gz : Bool} {k i j : Nat} {n y x1 x2 x3 : Str} {c1 c2 c3 : Value} {body : List Stmt} {pos pos' p1 p2 p3 q1 q2 q3 q4 : Pos} {kk : Nat} {wb : WS} {errs : List Addr}
theorem takes_len {W : WX} {X : Cx} (t : Takes X W) : Takes X (fun cls d _ H => ∀ σ : L2.St, σ.length = X.N.length → W cls d σ H) := fun u s' ⟨a, B, sI, pins, σ, H, cls, d, e, I, nb, up, sky, na, os, ag, w⟩ =>
  t u s' ⟨a, B, sI, pins, σ, H, cls, d, e, I, nb, up, sky, na, os, ag, w σ I.len⟩
/-- in the body of a try -/
theorem cg_try (c : Cg gz X E k) {pn : List (Addr × Obj)} {xe : Value → Shared → Prop} {W : WX} (t : Takes (X.tr pn xe) W) (po : PassesOwn (model X.prog X.w) X.A X.env xe) : Cg gz (X.tr pn xe) (fun cls d H => ∀ σ : L2.St, σ.length = X.N.length → W cls d σ H) k :=
  ⟨c.room, c.gd, c.calm, c.nd, passes_call (takes_len t) (fun _ _ _ _ z => z), po⟩
theorem as_try (i j : Nat) (c : Cg gz X E k) (he : ∀ C ∈ errs, PySem.W.exmAny X.K (.ref C) [c1, c2, c3] = some true) (m1 : X.mg x1 = some c1) (m2 : X.mg x2 = some c2) (m3 : X.mg x3 = some c3)
    (hb : ∀ (pn : List (Addr × Obj)) (xe : Value → Shared → Prop) (E' : XK), Takes (X.tr pn xe) (fun cls d _ H => E' cls d H) → Cg gz (X.tr pn xe) E' k → ASs (X.tr pn xe) E' body wb)
    (hij : i ≠ j) (g1 : Gl X x1 := by rfl) (g2 : Gl X x2 := by rfl) (g3 : Gl X x3 := by rfl) (d1 : (x1 == ("__debug__" : Str)) = false := by decide) (d2 : (x2 == ("__debug__" : Str)) = false := by decide) (d3 : (x3 == ("__debug__" : Str)) = false := by decide)
    (tk : Takes X (fun cls d _ H => E cls d H) := by exact takes_of rfl rfl rfl rfl)
    (hi : X.N[i]? = some n := by rfl) (hj : X.N[j]? = some y := by rfl) (hs : X.stack = X.env :: X.outer := by rfl) (hf : X.env.frame = some X.env.locals := by rfl) (hex : X.ex = [] := by rfl) (hln : X.env.kindOf n = some .local := by rfl)
    (hy : Loc X.env.scope y := by first | exact Or.inl rfl | exact Or.inr rfl) (hfy : X.fn y = true ∨ X.env.scope.names.lookup y = some .local := by first | exact .inl rfl | exact .inr rfl) (hv : Vis X.env.scope n := by exact Or.inl rfl)
    (hsw : swapsWith (.Name n p2) (some (.Name y p1)) p3.line X.env = pure false := by rfl) (hd : (n == ("__debug__" : Str)) = false := by decide) (hcd : (n == ("__classdict__" : Str)) = false := by decide) :
    AS X E (.Try body [.ExceptHandler (some (.Tuple [.Name x1 q1, .Name x2 q2, .Name x3 q3] kk q4)) (some n) [.Assign [.Name y p1] (.Name n p2) p3] pos'] [] [] pos) (wTry errs X.N.length j wb) := by
  have li : i < X.N.length := (List.getElem?_eq_some_iff.mp hi).1
  have lj : j < X.N.length := (List.getElem?_eq_some_iff.mp hj).1
  have hmo : MoS wb := by
    have tk2 : Takes (X.tr X.pn X.xe) (fun cls d _ H => E cls d H) := tk
    refine (hb X.pn X.xe E tk2 ?_).mo
    exact ⟨c.room, c.gd, c.calm, c.nd, passes_call (X := X.tr X.pn X.xe) tk2 (fun _ _ _ _ z => z), c.po⟩
  refine ⟨PS.imp (ps_try_keep (j := j) (ok := fun cls => PySem.W.exmAny X.K cls [c1, c2, c3]) (Wout := fun cls d _ H => E cls d H) (tb := fun W => tS X.K (fun cls d H => ∀ σ : L2.St, σ.length = X.N.length → W cls d σ H) wb)
    hex hs hf c.nd hi hln (xt_three ⟨g1, d1, .inl m1⟩ ⟨g2, d2, .inl m2⟩ ⟨g3, d3, .inl m3⟩) tk (fun W pn xe t po => (hb pn xe _ (takes_len t) (cg_try c t po)).run) (fun a pn => pss_one (ps_set (X := X.suite a pn) c.nd hj hy (pe_var (X := X.suite a pn) hi hv hd hcd) hsw hfy)) li) fun D σ H hq => ?_, fun D D' ρ h hD q => hmo { D with ex := exH errs X.N.length j D } { D' with ex := exH errs X.N.length j D' } ρ h ⟨hD.nx, hD.rt, hD.bk, hD.ct, fun x h1 z => ?_⟩ q⟩
  · obtain ⟨F, ρ, h, S, R, q⟩ := hq
    refine ⟨F, ρ, h, S, R, hmo { LD X.K F D E with ex := exH errs X.N.length j (LD X.K F D E) } _ ρ h ⟨fun _ _ z => z, fun _ _ z => z, fun _ _ z => z, fun _ _ z => z, fun x h1 z => ?_⟩ q⟩
    intro F1 H1 cls d e1 S1 rx
    cases x with
    | blt b => exact z.elim
    | own C fs =>
      obtain ⟨hC, z⟩ := z
      intro σ1 l1
      have hcls : cls = .ref C := rx.1
      refine ⟨true, by rw [hcls]; exact he C hC, fun _ => ⟨C, hcls, fun a na => ?_⟩, fun z => Bool.noConfusion z⟩
      obtain ⟨F2, e2, S2, rep⟩ := keep_sim S1 rx na
      refine z F2 _ _ (e1.trans e2) S2 ⟨by simp [l1], fun m d hm => ?_⟩
      by_cases c : m = j
      · subst c
        rw [List.getElem?_set_self (by simpa using lj)] at hm
        obtain rfl := Option.some.inj (Option.some.inj hm)
        refine ⟨.ref a, ?_, rep⟩
        rw [List.getElem?_set_ne hij, List.getElem?_set_self (by simpa [l1] using lj)]
      · rw [List.getElem?_set_ne (Ne.symm c), List.getElem?_replicate] at hm
        split at hm <;> cases hm
  · cases x with
    | blt b => exact z
    | own C fs => exact ⟨z.1, hD.nx _ _ z.2⟩
end
theorem u_try {errs : List Addr} {n j : Nat} {wb : WS} {D : EndsD} {ρ : EnvD} {h : AH} : wTry errs n j wb D ρ h = wb { D with ex := exH errs n j D } ρ h := rfl
end DL
/-! x(lambda: ..), over data -/
namespace DL
open PySem PySem.Spec L2 C8 PyProof.Rows LamX
section
variable {X : Cx} {pins : List (Addr × Obj)} {σ : L2.St} {H : Hp} {s : Shared}
/-- the lambda is made; its code object is known -/
theorem lam_make3 {F : Hp} {h : AH} {c P : Addr} {params : Arguments} {body : Expr} {scope : Scope} {pos : Pos} {E : Value → Shared → Prop} {Q : Value → Shared → Prop} (I : Inv X pins σ H s) (TB : TabB X.base X.mg c P) (hcode : X.env.code = .ref c) (S : Sim X.K F h H)
    (hP : h P = some (.tab (X.env.qual ++ "<lambda>"))) (hdef : defaultsOf params X.env = ([], [])) (hfree : ∀ y ∈ scope.names, y.2 = .free → ∃ c, X.env.cells.lookup y.1 = some c)
    (go : ∀ (f c' : Addr) (pm ctv : Value) (H1 F1 : Hp) (s' : Shared), Inv X pins σ H1 s' → Ext F F1 → Sim X.K F1 h H1 → s'.heap.get? f = some (PySem.W.kla_obj "<lambda>" (X.env.qual ++ "<lambda>") params body scope (cloFrom X.env.cells scope.names []) pm c' ctv) →
      H1 f = none → f ∉ frs X.stack → F1 c' = some (CodeO c' (X.env.qual ++ "<lambda>")) → Q (.ref f) s') :
    wpAny (model X.prog X.w) X.A (eval (.Lambda params body scope pos) X.env) Q E s := by
  obtain ⟨FP, u, HP, ps, rfl, tr, am⟩ := S.ob _ _ hP
  refine PySem.W.kla_eval hdef ?_
  have builtP : s.heap.BuiltinsAt X.mg P := TB.bm.keeps I.bk
  have atP : s.heap.get? P = some { cls := .none, data := .fields ps } := I.hok P _ HP
  have outside : ∀ f, s.heap.objs.size ≤ f → f ∉ frs X.stack := fun f hf z => by
    rcases List.mem_cons.mp (I.stkSub _ z) with e | e
    · have l1 := I.lt
      rw [← e] at l1
      exact Nat.lt_irrefl _ (Nat.lt_of_lt_of_le l1 hf)
    · exact I.nofs hf e
  cases hc : codeAmong pos ps.toList with
  | some cv =>
    obtain ⟨c', rfl, hF⟩ := am pos cv hc
    refine PySem.W.kla_makeFunctionHit (mg := X.mg) (c := c) (P := P) (ps := ps) (closure_ok hfree) I.ok.glob (I.mod.glob.keeps I.bk) hcode (TB.code.keeps I.bk) atP tr hc builtP fun ctv h2 tk2 kx hsz => ?_
    exact go h2.objs.size c' ((X.mg "__name__").getD .none) ctv H F _ (I.kept fun b o e => Heap.get?_push_of_some _ (kx b o e)) (Ext.refl F) S (Heap.get?_push_size _ rfl) (I.hok.fresh hsz) (outside _ hsz) hF
  | none =>
    refine PySem.W.kla_makeFunction (mg := X.mg) (c := c) (P := P) (ps := ps) (closure_ok hfree) I.ok.glob (I.mod.glob.keeps I.bk) hcode (TB.code.keeps I.bk) atP tr hc TB.gP builtP fun c' ctv h2 tk2 kx hge hlt rec2 tb2 => ?_
    obtain ⟨c2, oc, vs, t, e2, hoc, hd, hv⟩ := rec2
    obtain rfl := Value.ref.inj e2
    have sz : s.heap.objs.size ≤ h2.objs.size := Nat.le_trans hge (Nat.le_of_lt hlt)
    have nC : H c' = none := I.hok.fresh hge
    have J := inv_table (t' := tk2) (more := #[rawInt pos.line, rawInt pos.col, .ref c']) (h' := h2.push (PySem.W.kla_obj "<lambda>" (X.env.qual ++ "<lambda>") params body scope (cloFrom X.env.cells scope.names []) ((X.mg "__name__").getD .none) c' ctv)) I HP
      (fun b o hb e => Heap.get?_push_of_some _ (kx b o hb e)) (Heap.get?_push_of_some _ tb2) hge ⟨oc, vs, t, Heap.get?_push_of_some _ hoc, hd, hv⟩
    have nF : F c' = none := (S.free nC).1
    have ex1 : Ext F (upd F c' (CodeO c' (X.env.qual ++ "<lambda>"))) := ext_upd nF
    have tl : (ps ++ #[rawInt pos.line, rawInt pos.col, .ref c']).toList = ps.toList ++ [rawInt pos.line, rawInt pos.col, .ref c'] := by simp
    have nPc : P ≠ c' := fun z => by rw [z, nC] at HP; cases HP
    have S1 : Sim X.K (upd F c' (CodeO c' (X.env.qual ++ "<lambda>"))) h (upd (upd H P (.tbl (ps ++ #[rawInt pos.line, rawInt pos.col, .ref c']))) c' (CodeO c' (X.env.qual ++ "<lambda>"))) := by
      refine ⟨fun a o q => ?_, fun a o q => ?_⟩
      · by_cases h1 : a = c'
        · subst h1; rw [upd_same] at q ⊢; exact q
        · rw [upd_ne h1] at q
          have h3 : a ≠ P := fun z => by rw [z, FP] at q; cases q
          rw [upd_ne h1, upd_ne h3]; exact S.fz _ _ q
      · obtain ⟨fa, w, hw, r⟩ := S.ob _ _ q
        have h1 : a ≠ c' := fun z => by rw [z, nC] at hw; cases hw
        refine ⟨by rw [upd_ne h1]; exact fa, ?_⟩
        by_cases h3 : a = P
        · subst h3
          obtain rfl := Option.some.inj (hP.symm.trans q)
          refine ⟨_, by rw [upd_ne h1, upd_same], _, rfl, by rw [tl]; exact PySem.TriplesOk_snoc _ _ _ _ tr, fun p2 cv2 hc2 => ?_⟩
          rw [tl] at hc2
          rcases among_app _ tr hc2 with z | z
          · obtain ⟨c0, e1, e2⟩ := am p2 cv2 z
            exact ⟨c0, e1, ex1 _ _ e2⟩
          · exact ⟨c', z, upd_same⟩
        · exact ⟨w, by rw [upd_ne h1, upd_ne h3]; exact hw, r.ext ex1⟩
    have n1 : h2.objs.size ≠ c' := Nat.ne_of_gt hlt
    have n2 : h2.objs.size ≠ P := Nat.ne_of_gt (Nat.lt_of_lt_of_le (Heap.lt_size atP) sz)
    exact go h2.objs.size c' ((X.mg "__name__").getD .none) ctv _ _ _ J ex1 S1 (Heap.get?_push_size _ rfl) (by rw [upd_ne n1, upd_ne n2]; exact I.hok.fresh sz) (outside _ sz) upd_same
end
/-! ### thunks -/
abbrev Thk := AH → KD → KX → Prop
/-- monotone -/
def MoK (tl : Thk) : Prop := ∀ h Q Q' X X', (∀ d h, Q d h → Q' d h) → (∀ x h, X x h → X' x h) → tl h Q X → tl h Q' X'
abbrev HSpec := Thk → AH → KD → KX → Prop
def MoH (HS : HSpec) : Prop := ∀ t, MoK t → ∀ h Q Q' X X', (∀ d h, Q d h → Q' d h) → (∀ x h, X x h → X' x h) → HS t h Q X → HS t h Q' X'
/-- a call of the thunk d that slot i holds -/
def wAct (i : Nat) (d : D) (tl : Thk) : WE := fun ρ h Q X => ρ[i]? = some (some d) ∧ tl h Q X
/-- in the body of a def that gets a thunk: it may be called in a try -/
def ActOk (X : Cx) (a : Str) (d : D) (tl : Thk) : Prop := ∀ (pn : List (Addr × Obj)) (xe : Value → Shared → Prop) (E' : XK) (p1 p2 : Pos), Takes (X.tr pn xe) (fun cls d _ H => E' cls d H) → AE (X.tr pn xe) E' (.Call (.Name a p1) [] [] p2) (wAct 0 d tl)
section
variable (P : Program) (w : World) (K : PySem.W.Frag) (mg : Str → Option Value) (base : Heap)
/-- a def of the module that gets a thunk -/
structure HCal (gz : Bool) (x : Str) (k : Nat) (HS : HSpec) : Prop where
  ex : ∃ (g : Addr) (fd : FuncData) (st : Stmt) (N : List Str) (a : Str) (W : D → Thk → WS), mg x = some (.ref g) ∧ L2.Fun K x x st g fd ∧ FnScope N [a] (defScope st) ∧ N[0]? = some a ∧ Vis (defScope st) a ∧ (a == ("__debug__" : Str)) = false ∧ (a == ("__classdict__" : Str)) = false ∧
    (∀ (s : Shared) (u : Value), BindsTo s fd ⟨[u], []⟩ [(a, u)]) ∧
    (∀ (d : D) (tl : Thk), MoK tl → ∀ (cdv : Value) (A : Around) (outer : List PySem.Env) (s : Shared) (H : Hp) (E : XK), Cg gz (cxOf (L2.CX P w) P w K mg base N x (defScope st) g cdv A outer s H E) E k →
      ActOk (cxOf (L2.CX P w) P w K mg base N x (defScope st) g cdv A outer s H E) a d tl → ASs (cxOf (L2.CX P w) P w K mg base N x (defScope st) g cdv A outer s H E) E (defBody st) (W d tl)) ∧
    ∀ d tl, MoK tl → ∀ h Q X, HS tl h Q X → W d tl (endsD Q X) (startD N.length [d]) h
  mo : MoH HS
end
/-- x(lambda: e): the table at P, the reading of e -/
def wHeard (HS : HSpec) (P : Addr) (q : Str) (we : WE) : WE := fun ρ h Q X => h P = some (.tab q) ∧ HS (we ρ) h Q X
section
variable {X : Cx} {E : XK} {gz gy : Bool} {k j : Nat} {x : Str} {HS : HSpec} {c P : Addr} {params : Arguments} {body : Expr} {scope : Scope} {p lpos pos : Pos} {we : WE}
/-- in the body of the lambda -/
theorem cg_lam (c : Cg gz X E k) {A : Around} {outer : List PySem.Env} {s : Shared} {H : Hp} {E' : XK} {f c' : Addr} {m : Nat} (hr : Room m (A.deeper (lamEnv X scope s.heap.objs.size f c'))) : Cg false (lamCx X A outer s H E' scope f c') E' m :=
  ⟨hr, fun z => Bool.noConfusion z, rfl, c.nd, passes_call (X := lamCx X A outer s H E' scope f c') (takes_of rfl rfl rfl rfl) (fun _ _ _ _ z => z), passes_of rfl⟩
theorem ae_heard (c : Cg gz X E k) (M : HCal X.prog X.w X.K X.mg X.base gy x j HS) (hz : gy = true → gz = true) {cc : Addr} (TB : TabB X.base X.mg cc P) (hcode : X.env.code = .ref cc) (hj : j + 1 ≤ k)
    (he : ∀ (A : Around) (outer : List PySem.Env) (s : Shared) (H : Hp) (E' : XK) (f c' : Addr), Cg false (lamCx X A outer s H E' scope f c') E' (k - 2) → AE (lamCx X A outer s H E' scope f c') E' body we)
    (L : LamS X.env.scope scope) (hk2 : 2 ≤ k) (hdef : defaultsOf params X.env = ([], []) := by rfl)
    (hbind : ∀ (q : Str) (cl : List (Str × Addr)) (pm cv ctv : Value), bindArgs (PySem.W.kla_fn "<lambda>" q params body scope cl pm cv ctv) ⟨[], []⟩ = pure [] := by intro _ _ _ _ _; rfl) (hg : Gl X x := by rfl)
    (hdb : (x == ("__debug__" : Str)) = false := by decide) :
    AE X E (.Call (.Name x p) [.Lambda params body scope lpos] [] pos) (wHeard HS P (X.env.qual ++ "<lambda>") we) := by
  obtain ⟨g, fd, st, N, a, W, hm, Fn, sc, hN0, hva, ha1, ha2, hb, bodyH, pureH⟩ := M.ex
  obtain ⟨oc, od, kV, doc, pm0, an, cdv, ct, osl, rfl, lk, hcd⟩ := Fn.ex
  have room1 : ∀ (e : PySem.Env), Room (k - 1) (X.A.deeper e) := fun e => (c.room.mono (j := k - 1 + 1) (by omega)).deeper e
  have room2 : ∀ (e e2 : PySem.Env), Room (k - 2) ((X.A.deeper e).deeper e2) := fun e e2 => ((room1 e).mono (j := k - 2 + 1) (by omega)).deeper e2
  have moE : MoE we := (he (X.A.deeper X.env) X.outer X.s_0 X.H_0 E 0 0 (cg_lam c (room2 _ _))).mo
  have moW : ∀ ρ, MoK (we ρ) := fun ρ h Q Q' X X' hQ hX z => moE _ _ _ _ _ _ hQ hX z
  refine ⟨⟨fun pins s σ H Q I hq => ?_⟩, fun ρ h0 Q Q' X X' hq hx q => ⟨q.1, M.mo _ (moW ρ) _ _ _ _ _ hq hx q.2⟩⟩
  obtain ⟨F, ρ, h, S, R, hP, q⟩ := hq
  refine wpAny_Call_Name_kw (ld_glob I hg hm ?_ hdb)
  refine PySem.W.callWith_K (h₀ := X.base) I.ok.mod.kin Fn.kp ?_ (by rfl) (by rfl)
  show wpAny _ _ (spliced ((false, eval (.Lambda params body scope lpos) X.env) :: backTo pos (starEach [] X.env))) _ _ s
  refine Calls.spliced_cons (lam_make3 I TB hcode S hP hdef (L.has I.ok) fun f c' pm ctv H1 F1 s1 I1 e1 S1 hf hfn hfr hco => Calls.spliced_nil ⟨I1.kIn, ?_⟩)
  have R1 := R.ext e1
  have rc : codeAny (model X.prog X.w) X.A (.call (.ref g) ⟨[.ref f], []⟩) (CR (L2.CX X.prog X.w) X.stack X.prog X.w H1 s1 Q E) s1 := by
    have inK : X.K.In s1.heap := I1.kIn
    refine codeAny_call_function c.room.depth (inK _ _ lk) rfl sc.co sc.gen rfl (PySem.W.codeRec_of inK hcd) (hb _ _ _ _ _ _ ?_)
    have kinds : ∀ y ∈ [(a, Value.ref f)], (defScope st).names.lookup y.1 = some .local ∨ ((defScope st).names.lookup y.1 = some .cell ∧ ((cellsFrom (s1.heap.objs.size + 1) (defScope st).names []).lookup y.1).isSome = true) := fun ⟨n, v⟩ hy => by
      have e : (n, v) = (a, Value.ref f) := by simpa using hy
      obtain ⟨rfl, rfl⟩ := Prod.mk.inj e
      cases sc.par n (by simp) with
      | inl q => exact .inl q
      | inr q => exact .inr ⟨q, PySem.W.cellsFrom_some _ _ _ (.inl q)⟩
    refine wpAny_newFunctionEnv_cells sc.kind kinds fun env hE s2 ic => ?_
    subst hE
    refine ⟨I1.nolimit.keeps ic.toInCall.keep, codeAny_func ?_⟩
    have I2 := inv_start (CX := L2.CX X.prog X.w) (P := X.prog) (w := X.w) (mg := X.mg) (base := X.base) (E := E) (vs := [V.ref f]) (us := [Value.ref f]) sc c.room.hd I1.env0 rfl (.cons rfl .nil) ic
    have cg : Cg gy (cxOf (L2.CX X.prog X.w) X.prog X.w X.K X.mg X.base N x (defScope st) g cdv X.A X.stack s1 H1 E) E j :=
      ⟨(room1 _).mono (by omega), fun z => c.gd (hz z), rfl, sc.nd, passes_call (takes_of rfl rfl rfl rfl) fun _ _ _ _ z => z, passes_of rfl⟩
    have act : ActOk (cxOf (L2.CX X.prog X.w) X.prog X.w X.K X.mg X.base N x (defScope st) g cdv X.A X.stack s1 H1 E) a (.lam f c' (X.env.qual ++ "<lambda>") ρ σ) (we ρ) := fun pn xe E' p1 p2 tk => by
      refine ⟨PE.imp (pe_act (i := 0) (k := k - 2) (tb := tE X.K E' we) I1 L hf hfn hfr (hbind _ _ _ _ _) tk (fun _ _ _ _ z => z) ((room1 _).mono (by omega)) (fun A outer s H r2 => (he A outer s H E' f c' (cg_lam c r2)).run) hN0 hva ha1 ha2) fun σZ HZ Q hq => ?_, fun ρ1 h1 Q Q' X X' hQ hX z => ⟨z.1, moE _ _ _ _ _ _ hQ hX z.2⟩⟩
      obtain ⟨F3, ρz, h3, S3, R3, hd, q3⟩ := hq
      obtain ⟨v, hv, rep⟩ := R3.2 0 _ hd
      cases rep with
      | lam hc re => exact ⟨hv, S3.fz _ _ hc, F3, ρ, h3, S3, re.env, q3⟩
    have B := bodyH (.lam f c' (X.env.qual ++ "<lambda>") ρ σ) (we ρ) (fun h Q Q' X X' hQ hX z => moE _ _ _ _ _ _ hQ hX z) cdv X.A X.stack s1 H1 E cg act
    have go : tS X.K E (W (.lam f c' (X.env.qual ++ "<lambda>") ρ σ) (we ρ)) { nx := fun _ H' => Q .non H', rt := Q } (L2.start N [.ref f]) H1 := by
      refine ⟨F1, _, h, S1, start_env (ds := [.lam f c' (X.env.qual ++ "<lambda>") ρ σ]) (.cons (.lam hco R1.rep) .nil), B.mo (endsD (LQ X.K F1 Q) (LX X.K F1 E)) _ _ _ ⟨fun ρ h z => ?_, fun d h z => LQ.fin z, fun _ _ z => False.elim z, fun _ _ z => False.elim z, fun _ _ z => z⟩ (pureH _ (we ρ) (moW ρ) h _ _ (M.mo _ (moW ρ) _ _ _ _ _ (fun d h z => LQ.ext e1 z) (fun x h z => LX.ext e1 z) q))⟩
      exact fun F' H' σ' e S' _ => LQ.fin z F' H' .non e S' .non
    refine wpAny_mono (B.run.run [] s2 _ H1 _ I2 go) (fun fl s' hq => ?_) fun e s' hq => hq
    cases fl with
    | ret u =>
      obtain ⟨v, σ', H', J, rv, q⟩ := hq
      exact ⟨v, H', J.os, J.bare, J.base, J.hok, rv, q⟩
    | next =>
      obtain ⟨σ', H', J, q⟩ := hq
      exact ⟨.non, H', J.os, J.bare, J.base, J.hok, rfl, q⟩
    | brk => obtain ⟨_, _, _, q⟩ := hq; exact q.elim
    | cont => obtain ⟨_, _, _, q⟩ := hq; exact q.elim
  refine wpAny_call (codeAny_mono rc fun r s3 hq => ?_)
  match r, hq with
  | .error e, hq => exact c.ps pins σ H1 s1 e s3 I1 hq
  | .ok (.ret u), hq => exact I1.after hq
  | .ok .next, hq => exact hq.elim
  | .ok .brk, hq => exact hq.elim
  | .ok .cont, hq => exact hq.elim
end
end DL
/-! the end of a law that makes lambdas; defs that make lambdas -/
namespace DL
open PySem PySem.Spec L2 C8 PyProof.Rows LamX
/-- a def whose code object is known -/
structure FunC (K : PySem.W.Frag) (x qual : Str) (st : Stmt) (f : Addr) (fd : FuncData) (cc : Addr) : Prop where
  ex : ∃ (oc : Value) (od : Option Addr) (kV doc pm : Value) (an : Option Addr) (ct : Value) (osl : Array (Option Value)),
    fd = PySem.W.fnOf x qual (defArgs st) (defBody st) (defScope st) .none kV doc pm an (.ref cc) ct ∧ K.lookup f = some ⟨oc, od, .func fd, osl⟩ ∧ PySem.W.codeIn K (.ref cc) qual = true
theorem FunC.of {K : PySem.W.Frag} {x qual : Str} {st : Stmt} {f : Addr} {fd : FuncData} {cc : Addr} (F : L2.Fun K x qual st f fd) (h : fd.code = .ref cc) : FunC K x qual st f fd cc := by
  obtain ⟨oc, od, kV, doc, pm, an, cdv, ct, osl, rfl, lk, hcd⟩ := F.ex
  have e : cdv = .ref cc := h
  subst e
  exact ⟨oc, od, kV, doc, pm, an, ct, osl, rfl, lk, hcd⟩
/-- the code object and the table of a def of the module -/
theorem tabIn_of {K : PySem.W.Frag} {x : Str} {f cc P : Addr} {oc kc : Value} {od kd : Option Addr} {fd : FuncData} {osl ks : Array (Option Value)} {vs : Array Value} (hn : PySem.W.nsIn K mainGlobals x = some (some (.ref f))) (hf : K.lookup f = some ⟨oc, od, .func fd, osl⟩) (hc : fd.code = .ref cc)
    (hk : K.lookup cc = some ⟨kc, kd, .fields vs, ks⟩) (hv : vs[11]? = some (.ref P)) : PySem.W.tabIn K x = some (cc, P) := by
  unfold PySem.W.tabIn
  simp only [hn, hf, hc, hk, hv]
/-- three classes in an except clause -/
theorem exm3_of {K : PySem.W.Frag} {cls : Value} {C1 C2 C3 : Addr} {b1 b2 b3 : Bool} (h1 : PySem.W.exmOne K cls (.ref C1) = some b1) (h2 : PySem.W.exmOne K cls (.ref C2) = some b2) (h3 : PySem.W.exmOne K cls (.ref C3) = some b3) (hb : (b1 || (b2 || (b3 || false))) = true) :
    PySem.W.exmAny K cls [.ref C1, .ref C2, .ref C3] = some true := by
  simp only [PySem.W.exmAny, h1, h2, h3, hb]
section
variable {P : Program} {w : World} {K : PySem.W.Frag} {mg : Str → Option Value} {base : Heap}
/-- THE RULE for a def whose code object is known -/
theorem fng_ofC {gz : Bool} {x qual : Str} {st : Stmt} {f cc : Addr} {fd : FuncData} {N ps : List Str} {k : Nat} {S : FSpec} {W : WS}
    (F : FunC K x qual st f fd cc) (sc : FnScope N ps (defScope st)) (len : ∀ ds h Q X, S ds h Q X → ds.length = ps.length) (mo : MoF S)
    (body : ∀ (A : Around) (outer : List PySem.Env) (s : Shared) (H : Hp) (E : XK), Cg gz (cxOf (L2.CX P w) P w K mg base N qual (defScope st) f (.ref cc) A outer s H E) E k →
      ASs (cxOf (L2.CX P w) P w K mg base N qual (defScope st) f (.ref cc) A outer s H E) E (defBody st) W)
    (pure : ∀ ds h Q X, S ds h Q X → W (endsD Q X) (startD N.length ds) h) : FnG gz P w K mg base (k + 1) f fd ps S := by
  refine ⟨len, mo, fun {A outer s H args us vs Q E} hr hg e0 hb hv hs => ?_⟩
  obtain ⟨oc, od, kV, doc, pm, an, ct, osl, rfl, lk, hcd⟩ := F.ex
  have lenv := spD_len len hs
  have inK : K.In s.heap := e0.mod.kin.keeps fun b o e => (e0.bs b o e).1
  have nol : s.heap.NoLimit := e0.mod.nolimit.keeps fun b o e => (e0.bs b o e).1
  have kinds : ∀ y ∈ ps.zip us, (defScope st).names.lookup y.1 = some .local ∨ ((defScope st).names.lookup y.1 = some .cell ∧ ((cellsFrom (s.heap.objs.size + 1) (defScope st).names []).lookup y.1).isSome = true) := by
    rintro ⟨n, v⟩ hy
    rcases sc.par n (List.of_mem_zip hy).1 with q | q
    · exact .inl q
    · exact .inr ⟨q, PySem.W.cellsFrom_some _ _ _ (.inl q)⟩
  refine codeAny_call_function hr.depth (inK _ _ lk) rfl sc.co sc.gen rfl (PySem.W.codeRec_of inK hcd) (hb _ _ _ _ (wpAny_newFunctionEnv_cells sc.kind kinds fun env he s1 ic => ?_))
  subst he
  refine ⟨nol.keeps ic.toInCall.keep, codeAny_func ?_⟩
  have I := inv_start (CX := L2.CX P w) (P := P) (w := w) (mg := mg) (base := base) (E := E) sc hr.hd e0 lenv hv ic
  have c : Cg gz (cxOf (L2.CX P w) P w K mg base N qual (defScope st) f (.ref cc) A outer s H E) E k := ⟨hr.deeper _, hg, rfl, sc.nd, passes_call (takes_of rfl rfl rfl rfl) fun _ _ _ _ z => z, passes_of rfl⟩
  obtain ⟨F0, ds, g, S0, r0, q0⟩ := hs
  have B := body A outer s H E c
  have go : tS K E W { nx := fun _ H' => Q .non H', rt := Q } (L2.start N vs) H :=
    ⟨F0, _, g, S0, start_env r0, B.mo (endsD (LQ K F0 Q) (LX K F0 E)) _ _ _ ⟨fun ρ h z F' H' σ' e S' _ => LQ.fin z F' H' .non e S' .non, fun d h z => LQ.fin z, fun _ _ z => False.elim z, fun _ _ z => False.elim z, fun _ _ z => z⟩ (pure ds g _ _ q0)⟩
  refine wpAny_mono (B.run.run [] s1 _ H _ I go) (fun fl s' hq => ?_) fun e s' hq => hq
  cases fl with
  | ret u =>
    obtain ⟨v, σ', H', J, rv, q⟩ := hq
    exact ⟨v, H', J.os, J.bare, J.base, J.hok, rv, q⟩
  | next =>
    obtain ⟨σ', H', J, q⟩ := hq
    exact ⟨.non, H', J.os, J.bare, J.base, J.hok, rfl, q⟩
  | brk => obtain ⟨_, _, _, q⟩ := hq; exact q.elim
  | cont => obtain ⟨_, _, _, q⟩ := hq; exact q.elim
end
/-- what is known of the law at the head's heap: T tells the tables: code object, table, the lambdas' name -/
structure LawT (gz : Bool) (l : PySem.W.OpenLaw) (w : World) (K : PySem.W.Frag) (k n : Nat) (x : Str) (mg : Str → Option Value) (fa : Addr) (names : List Str) : Prop where
  ex : ∃ (fd : FuncData) (S : FSpec) (T : List (Str × Addr × Addr × Str)), (∀ (s : Shared) (u : Value), BindsTo s fd ⟨[u], []⟩ [(x, u)]) ∧ (∀ p ∈ T, p.1 ∈ names ∧ PySem.W.tabIn K p.1 = some (p.2.1, p.2.2.1) ∧ K.lookup p.2.2.1 = none) ∧
    (∀ (js : List Int) (h : AH), js.length ≤ n → (∀ p ∈ T, h p.2.2.1 = some (.tab p.2.2.2)) → S [.lk (js.map D.int)] h (fun d _ => d = .bl true) (fun _ _ => False)) ∧ (T.map (·.2.2.1)).Nodup ∧
    ∀ base : Heap, K.In base → base.Ns mainGlobals mg → (∀ p ∈ T, TabB base mg p.2.1 p.2.2.1) → FnG gz l.prog w K mg base k fa fd [x] S
section
variable {P : Program} {w : World} {K : PySem.W.Frag} {mg bm : Str → Option Value} {k : Nat} {fa q : Addr} {fd : FuncData} {x : Str} {S : FSpec} {t : Shared} {us : List Value} {js : List Int} {T : List (Str × Addr × Addr × Str)}
theorem tabs_at {ob : Addr → Option AO} : ∀ {T : List (Str × Addr × Addr × Str)}, (T.map (·.2.2.1)).Nodup → ∃ h : AH, (∀ p ∈ T, h p.2.2.1 = some (.tab p.2.2.2)) ∧ ∀ b o, h b = some o → ∃ p ∈ T, b = p.2.2.1 ∧ o = .tab p.2.2.2
  | [], _ => ⟨fun _ => none, ⟨fun p hp => (nomatch hp), fun b o e => (nomatch e)⟩⟩
  | p :: T, nd => by
    rw [List.map_cons, List.nodup_cons] at nd
    obtain ⟨h, h1, h2⟩ := tabs_at (ob := ob) nd.2
    refine ⟨up h p.2.2.1 (.tab p.2.2.2), fun p' hp' => ?_, fun b o e => ?_⟩
    · rcases List.mem_cons.mp hp' with rfl | hp'
      · exact up_same
      · rw [up_ne (fun z => nd.1 (by rw [← z]; exact List.mem_map.mpr ⟨p', hp', rfl⟩))]; exact h1 _ hp'
    · by_cases c : b = p.2.2.1
      · subst c
        rw [up_same] at e
        obtain rfl := Option.some.inj e
        exact ⟨p, List.mem_cons_self, rfl, rfl⟩
      · rw [up_ne c] at e
        obtain ⟨p', hp', z⟩ := h2 b o e
        exact ⟨p', List.mem_cons_of_mem _ hp', z⟩
theorem dl_callT (KX : K.In t.heap) (n1 : t.heap.Ns mainGlobals mg) (n2 : t.heap.Ns builtinsNs bm) (bb : ∀ y : Str, y ≠ "__name__" → bm y = bootBuiltins y) (nl : t.heap.NoLimit) (ng : t.gens = #[])
    (hT : ∀ p ∈ T, t.heap.get? p.2.2.1 = some { cls := .none, data := .fields #[] }) (nT : ∀ p ∈ T, K.lookup p.2.2.1 = none) (hC : ∀ p ∈ T, PySem.W.CodeHd t.heap p.2.1 p.2.2.1) (nd : (T.map (·.2.2.1)).Nodup)
    (hbm : ∃ (bm : Addr) (ob : Obj), mg "__builtins__" = some (.ref bm) ∧ bm ≠ builtinsNs ∧ t.heap.get? bm = some ob ∧ ob.cls = .type "module" ∧ ob.dict = some builtinsNs ∧ ob.data = .plain)
    (hq : t.heap.get? q = some { cls := .type "list", data := .seq us.toArray }) (ia : IntsAre us js) (lj : js.length ≤ sizeLine) (rm : Room k callerA)
    (G : ∀ base : Heap, K.In base → base.Ns mainGlobals mg → (∀ p ∈ T, TabB base mg p.2.1 p.2.2.1) → FnG gz P w K mg base k fa fd [x] S) (hb : ∀ (s : Shared) (u : Value), BindsTo s fd ⟨[u], []⟩ [(x, u)])
    (hS : ∀ h : AH, (∀ p ∈ T, h p.2.2.1 = some (.tab p.2.2.2)) → S [.lk (js.map D.int)] h (fun d _ => d = .bl true) (fun _ _ => False)) :
    codeAny (model P w) callerA (.call (.ref fa) ⟨[.ref q], []⟩) (fun r s' => r = .ok (.ret (.bool true)) ∧ OldK t.heap s'.heap ∧ s'.os = t.os ∧ AllBare s'.gens) t := by
  obtain ⟨H, B⟩ := beg_of (P := P) (w := w) KX hq ia lj
  obtain ⟨h0, t1, t2⟩ := tabs_at (ob := fun _ => none) nd
  have isT : ∀ b o, h0 b = some o → t.heap.get? b = some { cls := .none, data := .fields #[] } := fun b o e => by
    obtain ⟨p, hp, rfl, _⟩ := t2 b o e
    exact hT p hp
  have qT : h0 q = none := by
    cases e : h0 q with
    | none => rfl
    | some o =>
      have z := (isT q o e).symm.trans hq
      have z2 : Data.fields #[] = Data.seq us.toArray _ := congrArg Obj.data (Option.some.inj z)
      cases z2
  have HnT : ∀ b o, h0 b = some o → H b = none := fun b o e => by
    by_cases z : H b = none
    · exact z
    · obtain rfl := B.at_ b z
      rw [qT] at e; cases e
  have G0 : ∃ H2 : Hp, (∀ b o, h0 b = some o → H2 b = some (.tbl #[])) ∧ ∀ b, h0 b = none → H2 b = H b := by
    refine ⟨fun b => match h0 b with | some _ => some (.tbl #[]) | none => H b, fun b o e => ?_, fun b e => ?_⟩
    · show (match h0 b with | some _ => some (HO.tbl #[]) | none => H b) = _
      rw [e]
    · show (match h0 b with | some _ => some (HO.tbl #[]) | none => H b) = _
      rw [e]
  obtain ⟨H2, k1, k2⟩ := G0
  have fromH : ∀ b u, H b = some u → H2 b = some u := fun b u e => by
    have z : h0 b = none := by
      cases y : h0 b with
      | none => rfl
      | some o => rw [HnT b o y] at e; cases e
    rw [k2 b z]; exact e
  have ok2 : HOk P w H2 t.heap := fun b u e => by
    cases y : h0 b with
    | some o =>
      obtain rfl := Option.some.inj ((k1 b o y).symm.trans e)
      exact isT b o y
    | none =>
      rw [k2 b y] at e
      exact (B.ok b u e).stay (fun c v _ z => z) (fun c z => fromH _ _ z) fun c xs z => fromH _ _ z
  have low : ∀ {b : Addr} {ob : Obj}, t.heap.get? b = some ob → H2 b = none → (hidT t.heap H2).get? b = some ob := fun e z => hidT_get e z
  have noD : ∀ {b : Addr} {ob : Obj}, t.heap.get? b = some ob → (∀ v n, ob.data ≠ .seq v n) → ob.data ≠ .fields #[] → H2 b = none := by
    intro b ob e d1 d2
    cases y : h0 b with
    | some o =>
      obtain rfl := Option.some.inj ((isT b o y).symm.trans e)
      exact absurd rfl d2
    | none =>
      rw [k2 b y]
      by_cases z : H b = none
      · exact z
      · obtain rfl := B.at_ b z
        obtain rfl := Option.some.inj (hq.symm.trans e)
        exact absurd rfl (d1 _ _)
  have ns : ∀ {b : Addr} {m : Str → Option Value}, t.heap.Ns b m → (hidT t.heap H2).Ns b m := fun ⟨ob, es, ep, e, d, r⟩ => ⟨ob, es, ep, low e (noD e (fun v n z => by rw [d] at z; cases z) (fun z => by rw [d] at z; cases z)), d, r⟩
  have hK : K.In (hidT t.heap H2) := fun b ob e => low (KX b ob e) (by
    cases y : h0 b with
    | some o =>
      obtain ⟨p, hp, rfl, _⟩ := t2 b o y
      rw [nT p hp] at e; cases e
    | none =>
      rw [k2 b y]
      by_cases z : H b = none
      · exact z
      · obtain rfl := B.at_ b z
        rw [B.out z] at e; cases e)
  have M : Mod K mg (hidT t.heap H2) := by
    obtain ⟨mc, l1, l2⟩ := nl
    exact ⟨hK, ns n1, ⟨bm, ns n2, bb⟩, mc, ns l1, l2⟩
  have TB : ∀ p ∈ T, TabB (hidT t.heap H2) mg p.2.1 p.2.2.1 := fun p hp => by
    have hTp := hT p hp
    refine ⟨?_, ?_, fun z => ?_⟩
    · obtain ⟨o, vs, file, tf, flags, tg, inF, text, tt, e1, r1, r2, r3, r4, r5, r6, r7, r8, r9⟩ := hC p hp
      exact ⟨o, vs, file, tf, flags, tg, inF, text, tt, low e1 (noD e1 (fun v n z => by rw [r2] at z; cases z) (fun z => by rw [r2] at z; cases z; simp at r3)), r1, r2, r3, r4, r5, r6, r7, r8, r9⟩
    · obtain ⟨bm, ob, b1, b2, b3, b4, b5, b6⟩ := hbm
      refine ⟨bm, ob, b1, b2, fun z => ?_, fun z => ?_, low b3 (noD b3 (fun v n z => by rw [b6] at z; cases z) (fun z => by rw [b6] at z; cases z)), b4, b5, b6⟩
      · obtain ⟨o, es, ep, e, hd, _⟩ := n1
        rw [z, e] at b3
        obtain rfl := Option.some.inj b3
        rw [hd] at b6; cases b6
      · rw [z, hTp] at b3
        obtain rfl := Option.some.inj b3
        cases b6
    · obtain ⟨o, es, ep, e, hd, _⟩ := n1
      rw [z, hTp] at e
      obtain rfl := Option.some.inj e
      cases hd
  have none_in : ∀ {b : Addr}, b ∉ ([] : List Addr) := fun h => by cases h
  have e0 : Env0 P w K mg (hidT t.heap H2) callerA [] t H2 := ⟨rfl, M, fun b ob e => of_hidT e, Nat.le_of_eq (hidT_size _ _), trivial, fun b h => absurd h none_in, ok2, .of_eq ng⟩
  have FG := G _ hK (ns n1) TB
  have sp : spD K S [.ref q] H2 (fun v _ => v = .bl true) (fun _ _ _ => False) := by
    refine ⟨H, _, h0, ⟨fun a o e => fromH a o e, fun b o e => ⟨HnT b o e, _, k1 b o e, ?_⟩⟩, .cons (.lk B.sq ?_) .nil, FG.mo _ _ _ _ _ _ (fun d h e => ?_) (fun _ _ z => z.elim) (hS h0 t1)⟩
    · obtain ⟨p, hp, rfl, rfl⟩ := t2 b o e
      exact ⟨#[], rfl, True.intro, fun pos cv z => by simp [codeAmong] at z⟩
    · clear hS hq ia lj B e0 t1 t2 isT qT HnT fromH ok2
      induction js with
      | nil => exact .nil
      | cons j js ih => exact .cons (.int j) ih
    · intro F' H' v _ _ r
      subst e
      cases r; rfl
  refine codeAny_mono (FG.run (args := ⟨[.ref q], []⟩) (us := [.ref q]) (vs := [.ref q]) rm (fun _ => rfl) e0 (hb t (.ref q)) (.cons rfl .nil) sp) fun r s' h => ?_
  match r, h with
  | .error e, h => obtain ⟨_, _, _, _, _, _, _, _, _, _, _, _, h⟩ := h; exact h.elim
  | .ok .next, h => exact h.elim
  | .ok .brk, h => exact h.elim
  | .ok .cont, h => exact h.elim
  | .ok (.ret u), h =>
    obtain ⟨v, H3, os, bare, un, ok3, r2, e⟩ := h
    have e : v = .bl true := e
    subst e
    obtain rfl : u = Value.bool true := r2
    have grown : ∀ b o, h0 b = some o → ∃ more : Array Value, s'.heap.get? b = some { cls := .none, data := .fields more } := fun b o y => by
      obtain ⟨more, z⟩ := un.tbls b #[] (k1 b o y)
      exact ⟨_, ok3 b _ z⟩
    have rest : ∀ b ob, h0 b = none → t.heap.get? b = some ob → s'.heap.get? b = some ob := fun b ob y e => by
      rcases B.fz b with z | ⟨o2, ys, z⟩
      · exact un.keep b ob e (by rw [k2 b y]; exact z) none_in (by simp)
      · have d1 := (B.ok b _ z).1
        have d2 := (ok3 b _ (un.frzs b o2 _ (fromH _ _ z))).1
        rw [d1] at e
        obtain rfl := Option.some.inj e
        exact d2
    refine ⟨rfl, ⟨fun b o e => ?_, fun b o e => ?_⟩, os, bare⟩
    · cases y : h0 b with
      | none => exact .inl (rest b o y e)
      | some u =>
        obtain ⟨more, hm⟩ := grown b u y
        obtain ⟨p, hp, rfl, _⟩ := t2 b u y
        have e2 := hT p hp
        rw [e] at e2
        obtain rfl := Option.some.inj e2
        exact .inr (.inl ⟨((hC p hp).tab (hT p hp)).isCodeTable, rfl, #[], more, rfl, by rw [Array.empty_append]; exact hm⟩)
    · cases y : h0 b with
      | none => exact ⟨o, rest b o y e⟩
      | some u =>
        obtain ⟨more, hm⟩ := grown b u y
        exact ⟨_, hm⟩
/-- what the head leaves (case hc), where defs make lambdas -/
theorem dl_walkT {l : PySem.W.OpenLaw} {n k : Nat} {p : Program} {loose : List Str} {XP : (Str → Option Value) → Heap → Prop} {YP : World → Heap → Prop} {d : DefRec} {K : Params → PySem.W.Frag} {x : Str} {names : List Str}
    (hn : l.most = some n) (hz : n ≤ sizeLine) (hd : d.params.defaults = []) (rm : Room k callerA) (hY : ∀ (w : World) (h : Heap), YP w h → (K w.params).In h) (hr : (names.all fun x => ((recsOf p).find? fun e => e.name == x).isSome) = true)
    (G : ∀ (w : World) (mg : Str → Option Value) (fa : Addr) (h : Heap), (K w.params).In h → h.Ns mainGlobals mg → mg d.name = some (.ref fa) → LawT gz l w (K w.params) k n x mg fa names) :
    PySem.W.WalkO p loose XP YP l.row.toRowW d [] (fun f vs => PySem.call f vs) := by
  refine Att.attach_call hn hd fun w t0 t mg bm fa ob pm cd doc q us js Gr Y ho hdat hcd hmg hq ia lj ng => ?_
  have KX := hY w _ Y
  obtain ⟨fd, S, T, hb, hT, hS, nd, hF⟩ := (G w mg fa _ KX Gr.T.g hmg).ex
  have tabs : ∀ p' ∈ T, PySem.W.CodeHd t.heap p'.2.1 p'.2.2.1 ∧ t.heap.get? p'.2.2.1 = some { cls := .none, data := .fields #[] } := fun p' hp => by
    obtain ⟨m, ht, _⟩ := hT p' hp
    obtain ⟨dr, hdr⟩ := Option.isSome_iff_exists.mp (List.all_eq_true.mp hr _ m)
    exact PySem.W.tab_of Gr.T KX hdr ht
  exact dl_callT KX Gr.T.g Gr.T.b Gr.T.builtins Gr.T.nolimit ng (fun p hp => (tabs p hp).2) (fun p hp => (hT p hp).2.2) (fun p hp => (tabs p hp).1) nd Gr.T.bmain hq ia (Nat.le_trans lj hz) rm hF hb (fun h hh => hS js h lj hh)
end
end DL
/-! exceptions as values: isinstance, fields; counts and places in lists of bools -/
namespace DL
open PySem PySem.Spec L2 C8 PyProof.Rows
/-- what a kept exception's class must say -/
structure XVal (K : PySem.W.Frag) (C : Addr) : Prop where
  ga : PySem.W.findIn K (.ref C) "__getattribute__" = some (some (.builtin "BaseException.__getattribute__"))
  gg : PySem.W.findIn K (.ref C) "__getattr__" = some none
  sb : PySem.W.subIn K (.ref C) (.type "BaseException") = some true
  hd : PySem.W.hasDictIn K C = true
  cl : PySem.W.findIn K (.ref C) "__class__" = some (some (.builtin "object.__class__"))
  nn : PySem.W.specialIn K (.builtin "object.__class__") "__get__" = some (some (.builtin "getset_descriptor.__get__"))
  tk : PySem.W.takesIn K (.builtin "object.__class__") = some true
  mo : PySem.W.mroIn K C (.type "object") = some true
theorem XVal.is {K : PySem.W.Frag} {C : Addr} (T : XVal K C) : (PySem.W.clsIn K C).isSome = true := by
  obtain ⟨cd, hc, _⟩ := PySem.W.any_some T.hd
  rw [hc]; rfl
theorem XVal.kit {K : PySem.W.Frag} {C x : Addr} {ox : Obj} {od : Option Obj} (T : XVal K C) : PySem.W.KitX K (.ref x) (.ref C) (fun h => PySem.W.InstAt h x ox C od) := PySem.W.kitx_exc T.is T.ga T.gg T.sb T.cl T.nn T.tk T.mo
/-- the kept exception at a, with its fields -/
def KeptX (H : Hp) (a C : Addr) (fs : List (Str × V)) : Prop := (H a = some (exV a C none) ∧ fs = []) ∨ ∃ dd, H a = some (exV a C (some dd)) ∧ H dd = some (.xd fs)
theorem exv_at {P : Program} {w : World} {H : Hp} {h : Heap} {a C : Addr} {d : Option Addr} (hok : HOk P w H h) (e : H a = some (exV a C d)) : ∃ (oe : Obj) (vs : Array Value), h.get? a = some oe ∧ Zc (.ref C) d oe ∧ oe.data = .fields vs := by
  have x : ObjOk P w H h a (.ext fun h => ∃ (oe : Obj) (vs : Array Value), h.get? a = some oe ∧ Zc (.ref C) d oe ∧ oe.data = .fields vs) := hok a _ e
  exact x.1
theorem kept_inst {X : Cx} {pins : List (Addr × Obj)} {σ : L2.St} {H : Hp} {s : Shared} {a C : Addr} {fs : List (Str × V)} (I : Inv X pins σ H s) (k : KeptX H a C fs) : ∃ oe od, PySem.W.InstAt s.heap a oe C od ∧
    ∀ f v, fs.lookup f = some v → ∃ o u, od = some o ∧ RelV v u ∧ PySem.W.lookIn f o = some (some u) := by
  rcases k with ⟨e, rfl⟩ | ⟨dd, e, ed⟩
  · obtain ⟨oe, vs, g, hz, hd⟩ := exv_at I.hok e
    exact ⟨oe, none, ⟨g, hz.1, by unfold PySem.W.notCls; rw [hd] <;> rfl, by rw [hz.2]; trivial⟩, fun f v h => by cases h⟩
  · obtain ⟨oe, vs, g, hz, hd⟩ := exv_at I.hok e
    have hx : ObjOk X.prog X.w H s.heap dd (.xd fs) := I.hok dd _ ed
    obtain ⟨mA, hns, hr⟩ := hx
    obtain ⟨od, ho, hl⟩ := lookIn_ns hns
    refine ⟨oe, some od, ⟨g, hz.1, by unfold PySem.W.notCls; rw [hd] <;> rfl, by rw [hz.2]; exact ho⟩, fun f v h => ?_⟩
    obtain ⟨u, hu, ru⟩ := RelO.some_of (v := v) (o := mA f) (by rw [← h]; exact hr f)
    exact ⟨od, u, rfl, ru, by rw [hl, hu]⟩
theorem rep_kept {K : PySem.W.Frag} {F : Hp} {h : AH} {H : Hp} {C : Addr} {fs : List (Str × D)} {v : V} (S : Sim K F h H) (r : Rep K F (.xob C fs) v) : ∃ a vs, v = .ref a ∧ KeptX H a C vs ∧ RepF K F fs vs := by
  cases r with
  | xob0 e => exact ⟨_, [], rfl, .inl ⟨S.fz _ _ e, rfl⟩, .nil⟩
  | xob e ed rf => exact ⟨_, _, rfl, .inr ⟨_, S.fz _ _ e, S.fz _ _ ed⟩, rf⟩
/-! ### isinstance -/
def rIsX (K : PySem.W.Frag) : List V → Hp → VK → Prop := fun xs H Q => ∃ (a C : Addr) (fs : List (Str × V)) (c : V) (cv : Value) (b : Bool), xs = [.ref a, c] ∧ KeptX H a C fs ∧ XVal K C ∧ ClsV c cv ∧ PySem.W.kitOne K (.ref C) cv = some b ∧ Q (.bl b) H
def rIsXT (K : PySem.W.Frag) : List V → Hp → VK → Prop := fun xs H Q => ∃ (a C tp : Addr) (fs : List (Str × V)) (cs : List V) (ws : List Value) (b : Bool), xs = [.ref a, .ref tp] ∧ KeptX H a C fs ∧ XVal K C ∧ SqT K H tp cs ∧ Paired ClsV cs ws ∧ PySem.W.kitAny K (.ref C) ws = some b ∧ Q (.bl b) H
theorem call_isX {X : Cx} : CallR X (.builtin "isinstance") (rIsX X.K) := by
  intro pins s σ H xs us Q I r h
  obtain ⟨a, C, fs, c, cv, b, rfl, k, T, kc, e, q⟩ := h
  obtain ⟨u1, u2, rfl, r1, r2⟩ := vals2 r
  obtain rfl : u1 = Value.ref a := r1
  have e2 := kc.eq r2
  subst e2
  obtain ⟨oe, od, J, _⟩ := kept_inst I k
  exact PySem.W.kia_one T.kit I.kIn J e (fun z => nomatch z) fun tk => ⟨.bl b, H, I.tok tk, rfl, q⟩
theorem call_isXT {X : Cx} : CallR X (.builtin "isinstance") (rIsXT X.K) := by
  intro pins s σ H xs us Q I r h
  obtain ⟨a, C, tp, fs, cs, ws, b, rfl, k, T, hq, kc, e, q⟩ := h
  obtain ⟨u1, u2, rfl, r1, r2⟩ := vals2 r
  obtain rfl : u1 = Value.ref a := r1
  obtain rfl : u2 = Value.ref tp := r2
  obtain ⟨oe, od, J, _⟩ := kept_inst I k
  obtain ⟨its, rv, ⟨o, h1, h2, n, h3⟩, _⟩ := I.tuple hq
  have e3 := ClsV.all kc rv
  subst e3
  obtain ⟨oc, od2, dt, sl⟩ := o
  simp only at h2 h3
  subst h2 h3
  exact PySem.W.kia_tup T.kit I.kIn J h1 e (fun z => nomatch z) fun tk => ⟨.bl b, H, I.tok tk, rfl, q⟩
/-- a class as data -/
inductive ClsD : D → V → Value → Prop where
  | ty (n : String) : ClsD (.ty n) (.ty n) (.type n)
  | own (C : Addr) : ClsD (.ref C) (.ref C) (.ref C)
theorem ClsD.v {d : D} {v : V} {u : Value} (k : ClsD d v u) : ClsV v u := by
  cases k with
  | ty n => exact .ty n
  | own C => exact .own C
theorem ClsD.rep {K : PySem.W.Frag} {F : Hp} {d : D} {v w : V} {u : Value} (k : ClsD d v u) (r : Rep K F d w) : w = v := by
  cases k with
  | ty n => cases r; rfl
  | own C => cases r; rfl
/-- whose instances are which -/
abbrev XTab := List (Addr × D × Bool)
def XTabOk (K : PySem.W.Frag) (M : XTab) : Prop := ∀ p ∈ M, XVal K p.1 ∧ ∃ v u, ClsD p.2.1 v u ∧ PySem.W.kitOne K (.ref p.1) u = some p.2.2
def dIsX (M : XTab) (ds : List D) (h : AH) (Q : KD) : Prop := ∃ C fs c b, ds = [.xob C fs, c] ∧ (C, c, b) ∈ M ∧ Q (.bl b) h
inductive IsAny (M : XTab) (C : Addr) : List D → Bool → Prop where
  | nil : IsAny M C [] false
  | cons {c : D} {b r : Bool} {cs : List D} (h : (C, c, b) ∈ M) (t : IsAny M C cs r) : IsAny M C (c :: cs) (b || r)
def dIsXT (M : XTab) (ds : List D) (h : AH) (Q : KD) : Prop := ∃ C fs cs b, ds = [.xob C fs, .tup cs] ∧ cs ≠ [] ∧ IsAny M C cs b ∧ Q (.bl b) h
theorem isAny_ok {K : PySem.W.Frag} {M : XTab} (ok : XTabOk K M) {C : Addr} {F : Hp} : ∀ {cs : List D} {b : Bool} {vs : List V}, IsAny M C cs b → Reps K F cs vs → ∃ ws, Paired ClsV vs ws ∧ PySem.W.kitAny K (.ref C) ws = some b
  | _, _, _, .nil, .nil => ⟨[], .nil, kitAny_nil⟩
  | _, _, _, .cons h t, .cons r rs => by
    obtain ⟨ws, p, e⟩ := isAny_ok ok t rs
    obtain ⟨_, v, u, k, ek⟩ := ok _ h
    have ev := k.rep r
    subst ev
    refine ⟨u :: ws, .cons k.v p, kitAny_cons ek (fun hb => ?_) fun hb => ?_⟩
    · have hb2 : _ = false := hb
      dsimp only at hb2
      rw [e, hb2, Bool.false_or]
    · have hb2 : _ = true := hb
      dsimp only at hb2
      rw [hb2, Bool.true_or]
section
variable {X : Cx}
theorem dIsX_ok {M : XTab} (ok : XTabOk X.K M) : CaD X (.builtin "isinstance") (dIsX M) where
  ex := ⟨_, call_isX, fun {F h H ds vs Q} S r q => by
    obtain ⟨C, fs, c, b, rfl, hm, q⟩ := q
    obtain ⟨v, w, rfl, r1, r2⟩ := r.two
    obtain ⟨a, us, rfl, k, _⟩ := rep_kept S r1
    obtain ⟨T, v2, u, kc, e⟩ := ok _ hm
    have ev := kc.rep r2
    subst ev
    exact ⟨a, C, us, _, u, b, rfl, k, T, kc.v, e, q.at S (.bl _)⟩⟩
  mo := fun {ds h Q Q'} hq ⟨C, fs, c, b, e, hm, q⟩ => ⟨C, fs, c, b, e, hm, hq _ _ q⟩
theorem dIsXT_ok {M : XTab} (ok : XTabOk X.K M) : CaD X (.builtin "isinstance") (dIsXT M) where
  ex := ⟨_, call_isXT, fun {F h H ds vs Q} S r q => by
    obtain ⟨C, fs, cs, b, rfl, ne, hm, q⟩ := q
    obtain ⟨v, w, rfl, r1, r2⟩ := r.two
    obtain ⟨a, us, rfl, k, _⟩ := rep_kept S r1
    cases r2 with
    | tup hs rs =>
      obtain ⟨ws, p, e⟩ := isAny_ok ok hm rs
      have T : XVal X.K C := by
        cases hm with
        | nil => exact absurd rfl ne
        | cons h _ => exact (ok _ h).1
      exact ⟨a, C, _, us, _, ws, b, rfl, k, T, sqt_of S.fz hs, p, e, q.at S (.bl _)⟩⟩
  mo := fun {ds h Q Q'} hq ⟨C, fs, cs, b, e, ne, hm, q⟩ => ⟨C, fs, cs, b, e, ne, hm, hq _ _ q⟩
/-! ### fields -/
def wXFld (Cs : List Addr) (f : Str) (we : WE) : WE := fun ρ h Q X => we ρ h (fun x h1 => ∃ C fs d, x = .xob C fs ∧ C ∈ Cs ∧ fs.lookup f = some d ∧ Q d h1) X
theorem ae_xfld {E : XK} {Cs : List Addr} {f : Str} {e : Expr} {we : WE} {pos : Pos} (ok : ∀ C ∈ Cs, XVal X.K C ∧ PySem.W.findIn X.K (.ref C) f = some none) (he : AE X E e we) (hb : attributeBase e f X.env (eval e X.env) = eval e X.env := by rfl) : AE X E (.Attribute e f pos) (wXFld Cs f we) := by
  refine ⟨⟨fun pins s σ H Q I hq => ?_⟩, fun ρ h Q Q' X X' hq hx q => he.mo _ _ _ _ _ _ (fun x h1 ⟨C, fs, d, e1, e2, e3, z⟩ => ⟨C, fs, d, e1, e2, e3, hq _ _ z⟩) hx q⟩
  obtain ⟨F, ρ, h, S, R, q⟩ := hq
  refine attr_of hb (thn (he.run.run pins s σ H (fun v H1 => ∃ (a C : Addr) (vs : List (Str × V)) (u : V), v = .ref a ∧ C ∈ Cs ∧ KeptX H1 a C vs ∧ vs.lookup f = some u ∧ Q u H1) I ⟨F, ρ, h, S, R, he.mo _ _ _ _ _ _ (fun x h1 z => ?_) (fun _ _ z => z) q⟩) fun u s1 hh => ?_)
  · obtain ⟨C, fs, d, rfl, hC, hl, z⟩ := z
    intro F1 H1 v e1 S1 r
    obtain ⟨a, us, rfl, k, rf⟩ := rep_kept S1 r
    obtain ⟨w, hw, rw'⟩ := rf.look hl
    exact ⟨a, C, us, w, rfl, hC, k, hw, z F1 H1 w e1 S1 rw'⟩
  · obtain ⟨v, H1, I1, r1, a, C, vs, w, rfl, hC, k, hl, z⟩ := hh
    obtain rfl : u = Value.ref a := r1
    obtain ⟨T, hno⟩ := ok C hC
    obtain ⟨oe, od, J, hf⟩ := kept_inst I1 k
    obtain ⟨o, u2, rfl, ru, hlk⟩ := hf f w hl
    exact HandSPX.exc_get I1.kIn J T.ga T.gg T.sb (PySem.W.findObj_own T.hd hno rfl hlk) (handed_of ru) ⟨w, H1, I1.tok _, ru, z⟩
/-! ### lists of bools -/
end
/-! ### list(range(n)) -/
def rgD (n : Int) : List D := (List.range n.toNat).map fun i => D.int ((i : Nat) : Int)
def wLstRg (m : Bool) (wa : WE) : WE := fun ρ h Q X => wa ρ h (fun x h1 => ∃ n, x = .int n ∧ RgOk 0 n ∧ newL m (rgD n) h1 Q) X
theorem ae_listRg {X : Cx} {E : XK} (m : Bool) {e : Expr} {wa : WE} {gz : Bool} {k : Nat} {p p2 pos pos2 : Pos} (c : Cg gz X E k) (hm : X.mg "list" = none) (hm2 : X.mg "range" = none) (he : AE X E e wa) (hg : Gl X "list" := by rfl) (hg2 : Gl X "range" := by rfl)
    (na : starEach [e] X.env = (false, eval e X.env) :: starEach [] X.env := by rfl) (na2 : starEach [.Call (.Name "range" p2) [e] [] pos2] X.env = (false, eval (.Call (.Name "range" p2) [e] [] pos2) X.env) :: starEach [] X.env := by rfl) :
    AE X E (.Call (.Name "list" p) [.Call (.Name "range" p2) [e] [] pos2] [] pos) (wLstRg m wa) := by
  refine ⟨PE.imp (pe_listRg c.calm hg hm (prg_1 hg2 hm2 he.run na) na2) fun σ H Q ⟨F, ρ, h, S, R, q⟩ => ?_, fun ρ h Q Q' X X' hq hx q => he.mo _ _ _ _ _ _ (fun x h1 ⟨n, e1, e2, z⟩ => ⟨n, e1, e2, newL_mo hq z⟩) hx q⟩
  refine ⟨F, ρ, h, S, R, he.mo _ _ _ _ _ _ (fun x h1 z => ?_) (fun _ _ z => z) q⟩
  obtain ⟨n, rfl, ok, z⟩ := z
  intro F1 H1 v e1 S1 r
  cases r
  refine ⟨n, rfl, ok, S1.newL ?_ (newL_mo (fun _ _ z => LQ.ext e1 z) z)⟩
  unfold rgD rgV
  rw [Int.sub_zero]
  have key : ∀ l : List Nat, Reps X.K F1 (l.map fun i => D.int ((i : Nat) : Int)) (l.map fun i => V.int (0 + (i : Nat))) := fun l => by
    induction l with
    | nil => exact .nil
    | cons a l ih => rw [List.map_cons, List.map_cons, Int.zero_add]; exact .cons (.int _) ih
  exact key _
end DL
namespace PT
open PySem PySem.Spec L2 C8 DL PK
/-! ### the package's tables, refusals and all -/
abbrev S_needs (z : Ad) : FSpec := S_needsL z.Ledger
abbrev S_need (z : Ad) : FSpec := S_needL z.Ledger
/-- what is wrong with a value as a table -/
def WrongT (h : AH) (x : D) (i : Int) : Prop := (i = -1 ∧ ((∃ t, tyD h x = some t ∧ t ≠ "tuple") ∨ ∃ xs, x = .tup xs ∧ (xs.length = 0 ∨ 400 < xs.length))) ∨
  ∃ xs k, x = .tup xs ∧ 1 ≤ xs.length ∧ xs.length ≤ 400 ∧ (∀ e ∈ xs, (tyD h e).isSome = true) ∧ xs.findIdx? (fun e => !btw e 0 1000000000000) = some k ∧ i = (k : Nat)
def noTable (z : Ad) (i : Int) : DX := .own z.InvalidTable [("index", .int i)]
def S_need_table (z : Ad) : FSpec := fun ds h Q X => ∃ x, ds = [x] ∧ ((∃ es, x = tpI es ∧ TOk es ∧ Q .non h) ∨ ∃ i, WrongT h x i ∧ X (noTable z i) h)
abbrev S_is_broken (z : Ad) : FSpec := S_isBrk
abbrev S_broken_capacities (z : Ad) : FSpec := S_brkCaps
def S_first_broken (z : Ad) : FSpec := fun ds h Q X => ∃ x, ds = [x] ∧ ((∃ es, x = tpI es ∧ TOk es ∧ Q (firstD es) h) ∨ ∃ i, WrongT h x i ∧ X (noTable z i) h)
abbrev S_rests_of (z : Ad) : FSpec := S_restsOf
def restsD (es rs : List Int) : D := if brk es = [] then tpI rs else .non
def S_rests (z : Ad) : FSpec := fun ds h Q X => ∃ x, ds = [x] ∧ ((∃ es, x = tpI es ∧ TOk es ∧ ∀ rs, IsRests es rs → Q (restsD es rs) h) ∨ ∃ i, WrongT h x i ∧ X (noTable z i) h)
abbrev S_told_ledger (z : Ad) : FSpec := S_told z.Ledger
abbrev S_rising_capacities (z : Ad) : FSpec := S_rising
abbrev S_far_offsets (z : Ad) : FSpec := S_far z.Ledger
abbrev S_least_written (z : Ad) : FSpec := S_leastW z.Ledger
abbrev S_refusals (z : Ad) : FSpec := S_refus z.Ledger
def S_judge_table (z : Ad) : FSpec := fun ds h Q X => ∃ x s, ds = [x, .bl s] ∧ ((∃ es, x = tpI es ∧ TOk es ∧ Q (judD z.Ledger es s) h) ∨ ∃ i, WrongT h x i ∧ X (noTable z i) h)
def S_is_account (z : Ad) : FSpec := fun ds h Q _ => False
/-- a value that is at most a refusal -/
def S_check_table (z : Ad) : FSpec := fun ds h Q X => ∃ x v s, ds = [x, v, .bl s] ∧ ((∃ es, x = tpI es ∧ TOk es ∧ ((∃ t, tyD h v = some t ∧ t ≠ "tuple" ∧ Q (.bl false) h) ∨
  ∃ w n, v = .tup [.str w, .int n] ∧ Q (.bl (decide (w = refW es s) && decide (n ∈ refN es s))) h)) ∨ ∃ i, WrongT h x i ∧ X (noTable z i) h)
end PT
namespace PT
open PySem PySem.Spec L2 C8 DL PK
abbrev N_needs : List Str := ["ledger", "found", "above", "offset", "amount"]
abbrev N_need : List Str := ["ledger"]
abbrev N_need_table : List Str := ["table", "index", "entry"]
abbrev N_is_broken : List Str := ["table", "capacity"]
abbrev N_broken_capacities : List Str := ["table", "capacity"]
abbrev N_first_broken : List Str := ["table"]
abbrev N_rests_of : List Str := ["table", "many", "found", "capacity", "others", "further"]
abbrev N_rests : List Str := ["table"]
abbrev N_told_ledger : List Str := ["table", "found", "rows", "offset"]
abbrev N_rising_capacities : List Str := ["table", "found", "capacity"]
abbrev N_far_offsets : List Str := ["table", "offset", "amount"]
abbrev N_least_written : List Str := ["table", "least"]
abbrev N_refusals : List Str := ["table", "lossless", "broken", "rising"]
abbrev N_judge_table : List Str := ["table", "lossless", "word", "numbers"]
abbrev N_is_account : List Str := ["table", "written", "ledger"]
abbrev N_check_table : List Str := ["table", "value", "lossless", "word", "numbers"]
/-! ### the readings -/
def w_needs (z : Ad) : WS := (wSeq (wAsg (wLst true wNil) (gN 1))
  (wSeq (wAsg (wC (.int 0)) (gN 2))
  (wSeq (wFor (iRng3 (wCons (wOrT (wProp z.Ledger (PL.S_Ledger_greatest z) (wVar 0)) (wC (.int 0))) (wCons (wC (.int 0)) (wCons (wNeg (wC (.int 1))) wNil)))) (gN 3) (wSeq (wAsg (wOp (dIxOwn z.Ledger (PL.S_Ledger___getitem__ z)) (wVar 0) (wVar 3)) (gN 4))
  (wSeq (wAsg (wB dMax1 (wCons (wLst false (wCons (wC (.int 0)) (wCons (wNeg (wVar 4)) (wCons (wOp dSub (wVar 2) (wVar 4)) (wCons (wB dInt (wCons (wOp (dCmpI fun i j => decide (j < i)) (wVar 4) (wC (.int 0))) wNil)) wNil))))) wNil)) (gN 2))
  (wExpr (wMethT isL dAppend (wVar 1) (wCons (wVar 2) wNil))))))
  (wRet (wB dTupOf (wCons (wRev false (wVar 1)) wNil))))))
def w_need (z : Ad) : WS := (wRet (wB dSumT (wCons (wCallP (S_needs z) 1 (fun ds _ => ds) (wCons (wVar 0) wNil)) wNil)))
def w_need_table (z : Ad) : WS := (wSeq (wIfS (wOr (wNot (wTest (wB dIsi (wCons (wVar 0) (wCons (wC (.ty "tuple")) wNil))))) (wNot (wTest (wChain (dCmpI fun i j => decide (i ≤ j)) (dCmpI fun i j => decide (i ≤ j)) (wC (.int 1)) (wB dLen (wCons (wVar 0) wNil)) (wC (.int 400)))))) (wRaise z.InvalidTable ["index"] (wCons (wNeg (wC (.int 1))) wNil)) wSkip)
  (wFor (iNum (wCons (wVar 0) wNil)) (gT 2 (gsCons (gN 1) (gsCons (gN 2) gsNil))) (wIfS (wNot (wTest (wCallP (PK.S_is_between z) 3 (fun ds _ => ds) (wCons (wVar 2) (wCons (wC (.int 0)) (wCons (wC (.int 1000000000000)) wNil)))))) (wRaise z.InvalidTable ["index"] (wCons (wVar 1) wNil)) wSkip)))
def w_is_broken (z : Ad) : WS := (wRet (wOp (dEq fun b => !b) (wOp dMod (wOp dSub (wOp dIx (wVar 0) (wNeg (wC (.int 1)))) (wOp dIx (wVar 0) (wOp dSub (wVar 1) (wC (.int 1))))) (wVar 1)) (wC (.int 0))))
def w_broken_capacities (z : Ad) : WS := (wRet (wLc false (iRng2 (wCons (wC (.int 1)) (wCons (wOp (dAdd false) (wB dLen (wCons (wVar 0) wNil)) (wC (.int 1))) wNil))) (gN 1) (wTest (wCallP (S_is_broken z) 2 (fun ds _ => ds) (wCons (wVar 0) (wCons (wVar 1) wNil)))) (wVar 1) [1]))
def w_first_broken (z : Ad) : WS := (wSeq (wExpr (wCallP (S_need_table z) 1 (fun ds _ => ds) (wCons (wVar 0) wNil)))
  (wRet (wOp dIx (wOp (dAdd false) (wCallP (S_broken_capacities z) 1 (fun ds _ => ds) (wCons (wVar 0) wNil)) (wLst false (wCons (wC .non) wNil))) (wC (.int 0)))))
def w_rests_of (z : Ad) : WS := (wSeq (wAsg (wB dLen (wCons (wVar 0) wNil)) (gN 1))
  (wSeq (wAsg (wOp (dMul true) (wLst false (wCons (wC (.int 0)) wNil)) (wVar 1)) (gN 2))
  (wSeq (wFor (iRng3 (wCons (wVar 1) (wCons (wC (.int 0)) (wCons (wNeg (wC (.int 1))) wNil)))) (gN 3) (wSeq (wAsg (wLc false (iRng3 (wCons (wOp (dMul false) (wC (.int 2)) (wVar 3)) (wCons (wOp (dAdd false) (wVar 1) (wC (.int 1))) (wCons (wVar 3) wNil)))) (gN 5) wYes (wOp dIx (wVar 2) (wOp dSub (wVar 5) (wC (.int 1)))) [5]) (gN 4))
  (wAsg (wOp dSub (wOp dDiv (wOp dSub (wOp dIx (wVar 0) (wNeg (wC (.int 1)))) (wOp dIx (wVar 0) (wOp dSub (wVar 3) (wC (.int 1))))) (wVar 3)) (wB dSum (wCons (wVar 4) wNil))) (gSubL (wVar 2) (wOp dSub (wVar 3) (wC (.int 1)))))))
  (wRet (wB dTupOf (wCons (wVar 2) wNil))))))
def w_rests (z : Ad) : WS := (wSeq (wExpr (wCallP (S_need_table z) 1 (fun ds _ => ds) (wCons (wVar 0) wNil)))
  (wRet (wIf (wTest (wOp (dEq fun b => !b) (wCallP (S_broken_capacities z) 1 (fun ds _ => ds) (wCons (wVar 0) wNil)) (wLst false wNil))) (wC .non) (wCallP (S_rests_of z) 1 (fun ds _ => ds) (wCons (wVar 0) wNil)))))
def w_told_ledger (z : Ad) : WS := (wSeq (wAsg (wCallP (S_rests_of z) 1 (fun ds _ => ds) (wCons (wVar 0) wNil)) (gN 1))
  (wSeq (wAsg (wLc false (iRng2 (wCons (wC (.int 1)) (wCons (wB dLen (wCons (wVar 0) wNil)) wNil))) (gN 3) wYes (wTup (wCons (wVar 3) (wCons (wOp dSub (wOp dIx (wVar 1) (wOp dSub (wVar 3) (wC (.int 1)))) (wOp dIx (wVar 1) (wVar 3))) wNil))) [3]) (gN 2))
  (wRet (wMakeS z.Ledger (starS 1 (PL.S_Ledger___init__ z)) (wVar 2)))))
def w_rising_capacities (z : Ad) : WS := (wSeq (wAsg (wCallP (S_rests_of z) 1 (fun ds _ => ds) (wCons (wVar 0) wNil)) (gN 1))
  (wRet (wLc false (iRng2 (wCons (wC (.int 1)) (wCons (wB dLen (wCons (wVar 0) wNil)) wNil))) (gN 2) (wTest (wOp (dCmpI fun i j => decide (i < j)) (wOp dIx (wVar 1) (wOp dSub (wVar 2) (wC (.int 1)))) (wOp dIx (wVar 1) (wVar 2)))) (wVar 2) [2])))
def w_far_offsets (z : Ad) : WS := (wRet (wLc false (iTupD (wProp z.Ledger (PL.S_Ledger_rows z) (wCallP (S_told_ledger z) 1 (fun ds _ => ds) (wCons (wVar 0) wNil)))) (gT 2 (gsN [1, 2])) (wAnd (wTest (wOp (dCmpI fun i j => decide (j < i)) (wVar 2) (wC (.int 0)))) (wTest (wOp (dCmpI fun i j => decide (j < i)) (wVar 1) (wOp dIx (wVar 0) (wC (.int 0)))))) (wVar 1) [1, 2]))
def w_least_written (z : Ad) : WS := (wSeq (wAsg (wCallP (S_need z) 1 (fun ds _ => ds) (wCons (wCallP (S_told_ledger z) 1 (fun ds _ => ds) (wCons (wVar 0) wNil)) wNil)) (gN 1))
  (wRet (wIf (wTest (wOp (dCmpI fun i j => decide (j < i)) (wVar 1) (wOp dIx (wVar 0) (wC (.int 0))))) (wLst false (wCons (wVar 1) wNil)) (wLst false wNil))))
def w_refusals (z : Ad) : WS := (wSeq (wAsg (wCallP (S_broken_capacities z) 1 (fun ds _ => ds) (wCons (wVar 0) wNil)) (gN 2))
  (wSeq (wIfS (wTest (wOp (dEq fun b => !b) (wVar 2) (wLst false wNil))) (wRet (wTup (wCons (wC (.str "broken")) (wCons (wVar 2) wNil)))) wSkip)
  (wSeq (wIfS (wNot (wTruth (wVar 1))) (wRet (wTup (wCons (wC (.str "few")) (wCons (wCallP (S_least_written z) 1 (fun ds _ => ds) (wCons (wVar 0) wNil)) wNil)))) wSkip)
  (wSeq (wAsg (wCallP (S_rising_capacities z) 1 (fun ds _ => ds) (wCons (wVar 0) wNil)) (gN 3))
  (wRet (wIf (wTest (wOp (dEq fun b => !b) (wVar 3) (wLst false wNil))) (wTup (wCons (wC (.str "rises")) (wCons (wVar 3) wNil))) (wTup (wCons (wC (.str "far")) (wCons (wCallP (S_far_offsets z) 1 (fun ds _ => ds) (wCons (wVar 0) wNil)) wNil)))))))))
def w_judge_table (z : Ad) : WS := (wSeq (wExpr (wCallP (S_need_table z) 1 (fun ds _ => ds) (wCons (wVar 0) wNil)))
  (wSeq (wAsg (wCallP (S_refusals z) 2 (fun ds _ => ds) (wCons (wVar 0) (wCons (wVar 1) wNil))) (gT 2 (gsCons (gN 2) (gsCons (gN 3) gsNil))))
  (wSeq (wIfS (wTest (wOp (dEq fun b => b) (wVar 3) (wLst false wNil))) (wRet (wTup (wCons (wC (.str "account")) (wCons (wOp dIx (wVar 0) (wC (.int 0))) (wCons (wCallP (S_told_ledger z) 1 (fun ds _ => ds) (wCons (wVar 0) wNil)) wNil))))) wSkip)
  (wRet (wTup (wCons (wVar 2) (wCons (wIf (wTest (wOp (dEq fun b => b) (wVar 2) (wC (.str "far")))) (wOp dIx (wVar 3) (wNeg (wC (.int 1)))) (wOp dIx (wVar 3) (wC (.int 0)))) wNil)))))))
def w_is_account (z : Ad) : WS := (wSeq (wIfS (wOr (wNot (wTest (wCallP (PK.S_is_integer z) 1 (fun ds _ => ds) (wCons (wVar 1) wNil)))) (wNot (wTest (wB (dIsiO z.Ledger) (wCons (wVar 2) (wCons (wC (.ref z.Ledger)) wNil)))))) (wRet (wC (.bl false))) wSkip)
  (wRet (wAndV (wOp (dEq fun b => b) (wVar 1) (wOp dIx (wVar 0) (wC (.int 0)))) (wOp (dEq fun b => b) (wVar 2) (wCallP (S_told_ledger z) 1 (fun ds _ => ds) (wCons (wVar 0) wNil))))))
def w_check_table (z : Ad) : WS := (wSeq (wExpr (wCallP (S_need_table z) 1 (fun ds _ => ds) (wCons (wVar 0) wNil)))
  (wSeq (wIfS (wOr (wNot (wTest (wB dIsi (wCons (wVar 1) (wCons (wC (.ty "tuple")) wNil))))) (wOr (wTest (wOp (dIn true) (wB dLen (wCons (wVar 1) wNil)) (wTup (wCons (wC (.int 2)) (wCons (wC (.int 3)) wNil))))) (wNot (wTest (wB dIsi (wCons (wOp dIx (wVar 1) (wC (.int 0))) (wCons (wC (.ty "str")) wNil))))))) (wRet (wC (.bl false))) wSkip)
  (wSeq (wAsg (wCallP (S_refusals z) 2 (fun ds _ => ds) (wCons (wVar 0) (wCons (wVar 2) wNil))) (gT 2 (gsCons (gN 3) (gsCons (gN 4) gsNil))))
  (wSeq (wIfS (wTest (wOp (dEq fun b => b) (wB dLen (wCons (wVar 1) wNil)) (wC (.int 3)))) (wRet (wAndV (wOp (dEq fun b => b) (wOp dIx (wVar 1) (wC (.int 0))) (wC (.str "account"))) (wAndV (wOp (dEq fun b => b) (wVar 4) (wLst false wNil)) (wCallP (S_is_account z) 3 (fun ds _ => ds) (wCons (wVar 0) (wCons (wOp dIx (wVar 1) (wC (.int 1))) (wCons (wOp dIx (wVar 1) (wC (.int 2))) wNil))))))) wSkip)
  (wRet (wAndV (wOp (dEq fun b => b) (wOp dIx (wVar 1) (wC (.int 0))) (wVar 3)) (wAndV (wCallP (PK.S_is_integer z) 1 (fun ds _ => ds) (wCons (wOp dIx (wVar 1) (wC (.int 1))) wNil)) (wOp (dIn false) (wOp dIx (wVar 1) (wC (.int 1))) (wVar 4)))))))))
end PT
namespace PT
open PySem PySem.Spec L2 C8 DL PK
theorem p_needs (z : Ad) : ∀ ds h Q X, (S_needs z) ds h Q X → (w_needs z) (endsD Q X) (startD 5 ds) h := pr_needs z.Ledger
theorem len_needs (z : Ad) : ∀ ds h Q X, S_needs z ds h Q X → ds.length = 1 := len_needsL z.Ledger
theorem mo_needs (z : Ad) : MoF (S_needs z) := mo_needsL z.Ledger
theorem p_need (z : Ad) : ∀ ds h Q X, (S_need z) ds h Q X → (w_need z) (endsD Q X) (startD 1 ds) h := pr_need z.Ledger
theorem len_need (z : Ad) : ∀ ds h Q X, S_need z ds h Q X → ds.length = 1 := len_needL z.Ledger
theorem mo_need (z : Ad) : MoF (S_need z) := mo_needL z.Ledger
theorem p_is_broken (z : Ad) : ∀ ds h Q X, (S_is_broken z) ds h Q X → (w_is_broken z) (endsD Q X) (startD 2 ds) h := pr_isBrk
theorem len_is_broken (z : Ad) : ∀ ds h Q X, S_is_broken z ds h Q X → ds.length = 2 := len_isBrk
theorem mo_is_broken (z : Ad) : MoF (S_is_broken z) := mo_isBrk
theorem p_broken_capacities (z : Ad) : ∀ ds h Q X, (S_broken_capacities z) ds h Q X → (w_broken_capacities z) (endsD Q X) (startD 2 ds) h := pr_brkCaps
theorem len_broken_capacities (z : Ad) : ∀ ds h Q X, S_broken_capacities z ds h Q X → ds.length = 1 := len_brkCaps
theorem mo_broken_capacities (z : Ad) : MoF (S_broken_capacities z) := mo_brkCaps
theorem p_rests_of (z : Ad) : ∀ ds h Q X, (S_rests_of z) ds h Q X → (w_rests_of z) (endsD Q X) (startD 6 ds) h := pr_restsOf
theorem len_rests_of (z : Ad) : ∀ ds h Q X, S_rests_of z ds h Q X → ds.length = 1 := len_restsOf
theorem mo_rests_of (z : Ad) : MoF (S_rests_of z) := mo_restsOf
theorem p_told_ledger (z : Ad) : ∀ ds h Q X, (S_told_ledger z) ds h Q X → (w_told_ledger z) (endsD Q X) (startD 4 ds) h := pr_told z.Ledger
theorem len_told_ledger (z : Ad) : ∀ ds h Q X, S_told_ledger z ds h Q X → ds.length = 1 := len_told z.Ledger
theorem mo_told_ledger (z : Ad) : MoF (S_told_ledger z) := mo_told z.Ledger
theorem p_rising_capacities (z : Ad) : ∀ ds h Q X, (S_rising_capacities z) ds h Q X → (w_rising_capacities z) (endsD Q X) (startD 3 ds) h := pr_rising
theorem len_rising_capacities (z : Ad) : ∀ ds h Q X, S_rising_capacities z ds h Q X → ds.length = 1 := len_rising
theorem mo_rising_capacities (z : Ad) : MoF (S_rising_capacities z) := mo_rising
theorem p_far_offsets (z : Ad) : ∀ ds h Q X, (S_far_offsets z) ds h Q X → (w_far_offsets z) (endsD Q X) (startD 3 ds) h := pr_far z.Ledger
theorem len_far_offsets (z : Ad) : ∀ ds h Q X, S_far_offsets z ds h Q X → ds.length = 1 := len_far z.Ledger
theorem mo_far_offsets (z : Ad) : MoF (S_far_offsets z) := mo_far z.Ledger
theorem p_least_written (z : Ad) : ∀ ds h Q X, (S_least_written z) ds h Q X → (w_least_written z) (endsD Q X) (startD 2 ds) h := pr_leastW z.Ledger
theorem len_least_written (z : Ad) : ∀ ds h Q X, S_least_written z ds h Q X → ds.length = 1 := len_leastW z.Ledger
theorem mo_least_written (z : Ad) : MoF (S_least_written z) := mo_leastW z.Ledger
theorem p_refusals (z : Ad) : ∀ ds h Q X, (S_refusals z) ds h Q X → (w_refusals z) (endsD Q X) (startD 4 ds) h := pr_refus z.Ledger
theorem len_refusals (z : Ad) : ∀ ds h Q X, S_refusals z ds h Q X → ds.length = 2 := len_refus z.Ledger
theorem mo_refusals (z : Ad) : MoF (S_refusals z) := mo_refus z.Ledger
theorem len_need_table (z : Ad) : ∀ ds h Q X, S_need_table z ds h Q X → ds.length = 1 := fun _ _ _ _ ⟨_, e, _⟩ => by rw [e]; rfl
theorem mo_need_table (z : Ad) : MoF (S_need_table z) := fun _ _ _ _ _ _ hq hx ⟨x, e, q⟩ => ⟨x, e, q.imp (fun ⟨es, a, b, c⟩ => ⟨es, a, b, hq _ _ c⟩) fun ⟨i, a, b⟩ => ⟨i, a, hx _ _ b⟩⟩
theorem len_first_broken (z : Ad) : ∀ ds h Q X, S_first_broken z ds h Q X → ds.length = 1 := fun _ _ _ _ ⟨_, e, _⟩ => by rw [e]; rfl
theorem mo_first_broken (z : Ad) : MoF (S_first_broken z) := fun _ _ _ _ _ _ hq hx ⟨x, e, q⟩ => ⟨x, e, q.imp (fun ⟨es, a, b, c⟩ => ⟨es, a, b, hq _ _ c⟩) fun ⟨i, a, b⟩ => ⟨i, a, hx _ _ b⟩⟩
theorem len_rests (z : Ad) : ∀ ds h Q X, S_rests z ds h Q X → ds.length = 1 := fun _ _ _ _ ⟨_, e, _⟩ => by rw [e]; rfl
theorem mo_rests (z : Ad) : MoF (S_rests z) := fun _ _ _ _ _ _ hq hx ⟨x, e, q⟩ => ⟨x, e, q.imp (fun ⟨es, a, b, c⟩ => ⟨es, a, b, fun rs r => hq _ _ (c rs r)⟩) fun ⟨i, a, b⟩ => ⟨i, a, hx _ _ b⟩⟩
theorem len_judge_table (z : Ad) : ∀ ds h Q X, S_judge_table z ds h Q X → ds.length = 2 := fun _ _ _ _ ⟨_, _, e, _⟩ => by rw [e]; rfl
theorem mo_judge_table (z : Ad) : MoF (S_judge_table z) := fun _ _ _ _ _ _ hq hx ⟨x, s, e, q⟩ => ⟨x, s, e, q.imp (fun ⟨es, a, b, c⟩ => ⟨es, a, b, hq _ _ c⟩) fun ⟨i, a, b⟩ => ⟨i, a, hx _ _ b⟩⟩
theorem len_check_table (z : Ad) : ∀ ds h Q X, S_check_table z ds h Q X → ds.length = 3 := fun _ _ _ _ ⟨_, _, _, e, _⟩ => by rw [e]; rfl
theorem mo_check_table (z : Ad) : MoF (S_check_table z) := fun _ _ _ _ _ _ hq hx ⟨x, v, s, e, q⟩ => ⟨x, v, s, e, q.imp (fun ⟨es, a, b, c⟩ => ⟨es, a, b, c.imp (fun ⟨t, c1, c2, c3⟩ => ⟨t, c1, c2, hq _ _ c3⟩) fun ⟨w, n, c1, c2⟩ => ⟨w, n, c1, hq _ _ c2⟩⟩) fun ⟨i, a, b⟩ => ⟨i, a, hx _ _ b⟩⟩
theorem len_is_account (z : Ad) : ∀ ds h Q X, S_is_account z ds h Q X → ds.length = 3 := fun _ _ _ _ h => h.elim
theorem mo_is_account (z : Ad) : MoF (S_is_account z) := fun _ _ _ _ _ _ _ _ h => h.elim
theorem p_is_account (z : Ad) : ∀ ds h Q X, S_is_account z ds h Q X → w_is_account z (endsD Q X) (startD 3 ds) h := fun _ _ _ _ h => h.elim
theorem kit_tup {h : AH} {x : D} {t : String} (e : tyD h x = some t) (ne : t ≠ "tuple") : L2.kitB t "tuple" = some false := by
  unfold tyD at e
  split at e <;> cases e <;> first | exact absurd rfl ne | decide +kernel
theorem p_need_table (z : Ad) : ∀ ds h Q X, S_need_table z ds h Q X → w_need_table z (endsD Q X) (startD 3 ds) h := by
  rintro ds h Q X ⟨x, rfl, q⟩
  show w_need_table z (endsD Q X) [some x, none, none] h
  unfold w_need_table
  rw [u_seq]
  rcases q with ⟨es, rfl, ⟨l1, l2, hr⟩, q⟩ | ⟨i, w, q⟩
  · simp only [u_asg, u_gN, u_ret, u_retN, u_skip, u_expr, u_ifs, u_c, u_op, u_neg, u_test, u_and, u_or, u_not, u_if, u_nil, u_cons, u_tup, u_lst, u_callP, u_call, u_b, u_chain, u_andV, u_addI, u_subI, u_mulI, u_divI, u_modI, u_powI, u_cmpI, u_eqI, u_eqS, u_eqB, u_abs, u_intI, u_intB, u_newT, u_newF, u_isN, u_notN, wVar, List.set_cons_zero, List.set_cons_succ, List.getElem?_cons_zero, List.getElem?_cons_succ, List.length_cons, List.length_nil, u_lc, u_for, u_r1, u_r2, u_r3, u_num, u_notV, u_yes, u_w0, u_w1, dIsi, u_lenT, List.length_map]
    refine ⟨_, _, _, true, rfl, rfl, by decide +kernel, ?_⟩
    have c1 : (1 : Int) ≤ (es.length : Nat) := by omega
    have c2 : ((es.length : Nat) : Int) ≤ 400 := by omega
    simp only [decide_eq_true c1, decide_eq_true c2, Bool.not_true, Bool.false_eq_true, if_false, if_true]
    refine loop_go (fun _ ρ h' => h' = h ∧ ∃ a b, ρ = [some (tpI es), a, b]) ⟨rfl, _, _, rfl⟩ (fun _ _ _ _ => trivial) ?_ (fun ρ h' e => by obtain ⟨rfl, _⟩ := e; exact fin_of q)
    rintro i x _ _ K hi ⟨rfl, a, b, rfl⟩ k
    obtain ⟨y, hy, rfl⟩ := numD_get hi
    rw [List.getElem?_map] at hy
    obtain ⟨v, hv, rfl⟩ := Option.map_eq_some_iff.mp hy
    have hm := hr v (List.mem_of_getElem? hv)
    refine ⟨_, rfl, rfl, _, _, rfl, _, _, rfl, rfl, ?_⟩
    simp only [u_asg, u_gN, u_ret, u_retN, u_skip, u_expr, u_ifs, u_c, u_op, u_neg, u_test, u_and, u_or, u_not, u_if, u_nil, u_cons, u_tup, u_lst, u_callP, u_call, u_b, u_chain, u_andV, u_addI, u_subI, u_mulI, u_divI, u_modI, u_powI, u_cmpI, u_eqI, u_eqS, u_eqB, u_abs, u_intI, u_intB, u_newT, u_newF, u_isN, u_notN, wVar, List.set_cons_zero, List.set_cons_succ, List.getElem?_cons_zero, List.getElem?_cons_succ, List.length_cons, List.length_nil, u_lc, u_for, u_r1, u_r2, u_r3, u_num, u_notV, u_yes, u_w0, u_w1]
    refine ⟨trivial, .int v, _, 0, 1000000000000, rfl, ty_int, ?_⟩
    have eb : btw (.int v) 0 1000000000000 = true := by
      show (decide (0 ≤ v) && decide (v ≤ 1000000000000)) = true
      rw [decide_eq_true hm.1, decide_eq_true hm.2]; rfl
    simp only [eb, Bool.not_true, Bool.false_eq_true, if_false]
    exact k _ _ ⟨rfl, _, _, rfl⟩
  · rcases w with ⟨rfl, ⟨t, ht, ne⟩ | ⟨xs, rfl, hl⟩⟩ | ⟨xs, k, rfl, l1, l2, ty, hk, rfl⟩
    · simp only [u_asg, u_gN, u_ret, u_retN, u_skip, u_expr, u_ifs, u_c, u_op, u_neg, u_test, u_and, u_or, u_not, u_if, u_nil, u_cons, u_tup, u_lst, u_callP, u_call, u_b, u_chain, u_andV, u_addI, u_subI, u_mulI, u_divI, u_modI, u_powI, u_cmpI, u_eqI, u_eqS, u_eqB, u_abs, u_intI, u_intB, u_newT, u_newF, u_isN, u_notN, wVar, List.set_cons_zero, List.set_cons_succ, List.getElem?_cons_zero, List.getElem?_cons_succ, List.length_cons, List.length_nil, u_lc, u_for, u_r1, u_r2, u_r3, u_num, u_notV, u_yes, u_w0, u_w1, u_isi]
      refine ⟨t, false, ht, kit_tup ht ne, ?_⟩
      simp only [Bool.not_false, if_true, u_raise, u_asg, u_gN, u_ret, u_retN, u_skip, u_expr, u_ifs, u_c, u_op, u_neg, u_test, u_and, u_or, u_not, u_if, u_nil, u_cons, u_tup, u_lst, u_callP, u_call, u_b, u_chain, u_andV, u_addI, u_subI, u_mulI, u_divI, u_modI, u_powI, u_cmpI, u_eqI, u_eqS, u_eqB, u_abs, u_intI, u_intB, u_newT, u_newF, u_isN, u_notN, wVar, List.set_cons_zero, List.set_cons_succ, List.getElem?_cons_zero, List.getElem?_cons_succ, List.length_cons, List.length_nil, u_lc, u_for, u_r1, u_r2, u_r3, u_num, u_notV, u_yes, u_w0, u_w1]
      exact ⟨trivial, q⟩
    · simp only [u_asg, u_gN, u_ret, u_retN, u_skip, u_expr, u_ifs, u_c, u_op, u_neg, u_test, u_and, u_or, u_not, u_if, u_nil, u_cons, u_tup, u_lst, u_callP, u_call, u_b, u_chain, u_andV, u_addI, u_subI, u_mulI, u_divI, u_modI, u_powI, u_cmpI, u_eqI, u_eqS, u_eqB, u_abs, u_intI, u_intB, u_newT, u_newF, u_isN, u_notN, wVar, List.set_cons_zero, List.set_cons_succ, List.getElem?_cons_zero, List.getElem?_cons_succ, List.length_cons, List.length_nil, u_lc, u_for, u_r1, u_r2, u_r3, u_num, u_notV, u_yes, u_w0, u_w1, u_isi, u_lenT]
      refine ⟨"tuple", true, rfl, by decide +kernel, ?_⟩
      simp only [Bool.not_true, Bool.false_eq_true, if_false]
      have e : (decide ((1 : Int) ≤ (xs.length : Nat)) && decide (((xs.length : Nat) : Int) ≤ 400)) = false := by
        rcases hl with hl | hl
        · rw [decide_eq_false (by omega)]; rfl
        · rw [decide_eq_false (p := ((xs.length : Nat) : Int) ≤ 400) (by omega), Bool.and_false]
      by_cases c : (1 : Int) ≤ (xs.length : Nat)
      · rw [decide_eq_true c, Bool.true_and] at e
        simp only [decide_eq_true c, e, if_true, Bool.not_false, u_raise, u_asg, u_gN, u_ret, u_retN, u_skip, u_expr, u_ifs, u_c, u_op, u_neg, u_test, u_and, u_or, u_not, u_if, u_nil, u_cons, u_tup, u_lst, u_callP, u_call, u_b, u_chain, u_andV, u_addI, u_subI, u_mulI, u_divI, u_modI, u_powI, u_cmpI, u_eqI, u_eqS, u_eqB, u_abs, u_intI, u_intB, u_newT, u_newF, u_isN, u_notN, wVar, List.set_cons_zero, List.set_cons_succ, List.getElem?_cons_zero, List.getElem?_cons_succ, List.length_cons, List.length_nil, u_lc, u_for, u_r1, u_r2, u_r3, u_num, u_notV, u_yes, u_w0, u_w1]
        exact ⟨trivial, q⟩
      · simp only [decide_eq_false c, Bool.false_eq_true, if_false, Bool.not_false, if_true, u_raise, u_asg, u_gN, u_ret, u_retN, u_skip, u_expr, u_ifs, u_c, u_op, u_neg, u_test, u_and, u_or, u_not, u_if, u_nil, u_cons, u_tup, u_lst, u_callP, u_call, u_b, u_chain, u_andV, u_addI, u_subI, u_mulI, u_divI, u_modI, u_powI, u_cmpI, u_eqI, u_eqS, u_eqB, u_abs, u_intI, u_intB, u_newT, u_newF, u_isN, u_notN, wVar, List.set_cons_zero, List.set_cons_succ, List.getElem?_cons_zero, List.getElem?_cons_succ, List.length_cons, List.length_nil, u_lc, u_for, u_r1, u_r2, u_r3, u_num, u_notV, u_yes, u_w0, u_w1]
        exact ⟨trivial, q⟩
    · simp only [u_asg, u_gN, u_ret, u_retN, u_skip, u_expr, u_ifs, u_c, u_op, u_neg, u_test, u_and, u_or, u_not, u_if, u_nil, u_cons, u_tup, u_lst, u_callP, u_call, u_b, u_chain, u_andV, u_addI, u_subI, u_mulI, u_divI, u_modI, u_powI, u_cmpI, u_eqI, u_eqS, u_eqB, u_abs, u_intI, u_intB, u_newT, u_newF, u_isN, u_notN, wVar, List.set_cons_zero, List.set_cons_succ, List.getElem?_cons_zero, List.getElem?_cons_succ, List.length_cons, List.length_nil, u_lc, u_for, u_r1, u_r2, u_r3, u_num, u_notV, u_yes, u_w0, u_w1, u_isi, u_lenT]
      refine ⟨"tuple", true, rfl, by decide +kernel, ?_⟩
      have c1 : (1 : Int) ≤ (xs.length : Nat) := by omega
      have c2 : ((xs.length : Nat) : Int) ≤ 400 := by omega
      simp only [decide_eq_true c1, decide_eq_true c2, Bool.not_true, Bool.false_eq_true, if_false, if_true]
      obtain ⟨hkl, h1, h2⟩ := List.findIdx?_eq_some_iff_getElem.mp hk
      refine loop_go (fun i ρ h' => h = h' ∧ i ≤ k ∧ ∃ a b, ρ = [some (.tup xs), a, b]) ⟨rfl, Nat.zero_le _, _, _, rfl⟩ (fun _ _ _ _ => trivial) ?_ ?_
      · rintro i y _ _ K hi ⟨rfl, hik, a, b, rfl⟩ kk
        obtain ⟨v, hv, rfl⟩ := numD_get hi
        obtain ⟨il, iv⟩ := List.getElem?_eq_some_iff.mp hv
        obtain ⟨t, ht⟩ := Option.isSome_iff_exists.mp (ty v (List.mem_of_getElem? hv))
        refine ⟨_, rfl, rfl, _, _, rfl, _, _, rfl, rfl, ?_⟩
        simp only [u_asg, u_gN, u_ret, u_retN, u_skip, u_expr, u_ifs, u_c, u_op, u_neg, u_test, u_and, u_or, u_not, u_if, u_nil, u_cons, u_tup, u_lst, u_callP, u_call, u_b, u_chain, u_andV, u_addI, u_subI, u_mulI, u_divI, u_modI, u_powI, u_cmpI, u_eqI, u_eqS, u_eqB, u_abs, u_intI, u_intB, u_newT, u_newF, u_isN, u_notN, wVar, List.set_cons_zero, List.set_cons_succ, List.getElem?_cons_zero, List.getElem?_cons_succ, List.length_cons, List.length_nil, u_lc, u_for, u_r1, u_r2, u_r3, u_num, u_notV, u_yes, u_w0, u_w1]
        refine ⟨trivial, v, t, 0, 1000000000000, rfl, ht, ?_⟩
        by_cases c : i = k
        · subst c
          have eb : btw v 0 1000000000000 = false := by
            rw [← iv]
            simpa using h1
          simp only [eb, Bool.not_false, if_true, u_raise, u_asg, u_gN, u_ret, u_retN, u_skip, u_expr, u_ifs, u_c, u_op, u_neg, u_test, u_and, u_or, u_not, u_if, u_nil, u_cons, u_tup, u_lst, u_callP, u_call, u_b, u_chain, u_andV, u_addI, u_subI, u_mulI, u_divI, u_modI, u_powI, u_cmpI, u_eqI, u_eqS, u_eqB, u_abs, u_intI, u_intB, u_newT, u_newF, u_isN, u_notN, wVar, List.set_cons_zero, List.set_cons_succ, List.getElem?_cons_zero, List.getElem?_cons_succ, List.length_cons, List.length_nil, u_lc, u_for, u_r1, u_r2, u_r3, u_num, u_notV, u_yes, u_w0, u_w1]
          exact ⟨trivial, q⟩
        · have eb : btw v 0 1000000000000 = true := by
            have := h2 i (by omega)
            rw [← iv]
            simpa using this
          simp only [eb, Bool.not_true, Bool.false_eq_true, if_false]
          exact kk _ _ ⟨rfl, by omega, _, _, rfl⟩
      · rintro _ _ ⟨rfl, hik, _⟩
        have : (numD xs).length = xs.length := by unfold numD; simp
        omega
theorem p_first_broken (z : Ad) : ∀ ds h Q X, S_first_broken z ds h Q X → w_first_broken z (endsD Q X) (startD 1 ds) h := by
  rintro ds h Q X ⟨x, rfl, q⟩
  show w_first_broken z (endsD Q X) [some x] h
  unfold w_first_broken
  ((try dsimp only); rw [u_seq]; (try simp only [u_asg, u_gN, u_ret, u_retN, u_skip, u_expr, u_ifs, u_c, u_op, u_neg, u_test, u_and, u_or, u_not, u_if, u_nil, u_cons, u_tup, u_lst, u_callP, u_call, u_b, u_chain, u_andV, u_addI, u_subI, u_mulI, u_divI, u_modI, u_powI, u_cmpI, u_eqI, u_eqS, u_eqB, u_abs, u_intI, u_intB, u_newT, u_newF, u_isN, u_notN, wVar, List.set_cons_zero, List.set_cons_succ, List.getElem?_cons_zero, List.getElem?_cons_succ, List.length_cons, List.length_nil, u_lc, u_for, u_r1, u_r2, u_r3, u_num, u_notV, u_yes, u_w0, u_w1, u_dput, u_get2, u_dget, u_prop, u_fld, u_setF, u_make, u_makeS, u_met, u_calO, u_orT, u_tupIt, u_dc, u_maxDd, u_dnew, u_tupi, ix_p0, ix_p1, wSl, woNone, woSome]))
  rcases q with ⟨es, rfl, ok, q⟩ | ⟨i, w, q⟩
  · refine ⟨trivial, _, rfl, .inl ⟨es, rfl, ok, ?_⟩⟩
    try simp only [u_asg, u_gN, u_ret, u_retN, u_skip, u_expr, u_ifs, u_c, u_op, u_neg, u_test, u_and, u_or, u_not, u_if, u_nil, u_cons, u_tup, u_lst, u_callP, u_call, u_b, u_chain, u_andV, u_addI, u_subI, u_mulI, u_divI, u_modI, u_powI, u_cmpI, u_eqI, u_eqS, u_eqB, u_abs, u_intI, u_intB, u_newT, u_newF, u_isN, u_notN, wVar, List.set_cons_zero, List.set_cons_succ, List.getElem?_cons_zero, List.getElem?_cons_succ, List.length_cons, List.length_nil, u_lc, u_for, u_r1, u_r2, u_r3, u_num, u_notV, u_yes, u_w0, u_w1, u_dput, u_get2, u_dget, u_prop, u_fld, u_setF, u_make, u_makeS, u_met, u_calO, u_orT, u_tupIt, u_dc, u_maxDd, u_dnew, u_tupi, ix_p0, ix_p1, wSl, woNone, woSome]
    refine ⟨trivial, es, rfl, ok, by decide, ?_⟩
    unfold firstD at q
    show dAdd false (lsI (brk es)) (.lst [.non]) h _
    refine ⟨_, _, rfl, rfl, ?_, ?_⟩
    · have : (brk es).length ≤ es.length := by
        have := List.length_filterMap_le (fun k => if tbad es k = true then some ((k : Int) + 1) else none) (List.range es.length)
        rw [List.length_range] at this
        exact this
      have e := ok.2.1
      rw [List.length_map]
      show (brk es).length + 1 ≤ sizeLine
      rw [sizeLine_eq]; omega
    · rw [newL_f]
      cases e : brk es with
      | nil =>
        rw [e] at q
        exact (u_ixLd at0).mpr (fin_of q)
      | cons b bs =>
        rw [e] at q
        exact (u_ixLd at0).mpr (fin_of q)
  · exact ⟨trivial, _, rfl, .inr ⟨i, w, q⟩⟩
theorem p_rests (z : Ad) : ∀ ds h Q X, S_rests z ds h Q X → w_rests z (endsD Q X) (startD 1 ds) h := by
  rintro ds h Q X ⟨x, rfl, q⟩
  show w_rests z (endsD Q X) [some x] h
  unfold w_rests
  ((try dsimp only); rw [u_seq]; (try simp only [u_asg, u_gN, u_ret, u_retN, u_skip, u_expr, u_ifs, u_c, u_op, u_neg, u_test, u_and, u_or, u_not, u_if, u_nil, u_cons, u_tup, u_lst, u_callP, u_call, u_b, u_chain, u_andV, u_addI, u_subI, u_mulI, u_divI, u_modI, u_powI, u_cmpI, u_eqI, u_eqS, u_eqB, u_abs, u_intI, u_intB, u_newT, u_newF, u_isN, u_notN, wVar, List.set_cons_zero, List.set_cons_succ, List.getElem?_cons_zero, List.getElem?_cons_succ, List.length_cons, List.length_nil, u_lc, u_for, u_r1, u_r2, u_r3, u_num, u_notV, u_yes, u_w0, u_w1, u_dput, u_get2, u_dget, u_prop, u_fld, u_setF, u_make, u_makeS, u_met, u_calO, u_orT, u_tupIt, u_dc, u_maxDd, u_dnew, u_tupi, ix_p0, ix_p1, wSl, woNone, woSome]))
  rcases q with ⟨es, rfl, ok, q⟩ | ⟨i, w, q⟩
  · refine ⟨trivial, _, rfl, .inl ⟨es, rfl, ok, ?_⟩⟩
    try simp only [u_asg, u_gN, u_ret, u_retN, u_skip, u_expr, u_ifs, u_c, u_op, u_neg, u_test, u_and, u_or, u_not, u_if, u_nil, u_cons, u_tup, u_lst, u_callP, u_call, u_b, u_chain, u_andV, u_addI, u_subI, u_mulI, u_divI, u_modI, u_powI, u_cmpI, u_eqI, u_eqS, u_eqB, u_abs, u_intI, u_intB, u_newT, u_newF, u_isN, u_notN, wVar, List.set_cons_zero, List.set_cons_succ, List.getElem?_cons_zero, List.getElem?_cons_succ, List.length_cons, List.length_nil, u_lc, u_for, u_r1, u_r2, u_r3, u_num, u_notV, u_yes, u_w0, u_w1, u_dput, u_get2, u_dget, u_prop, u_fld, u_setF, u_make, u_makeS, u_met, u_calO, u_orT, u_tupIt, u_dc, u_maxDd, u_dnew, u_tupi, ix_p0, ix_p1, wSl, woNone, woSome]
    refine ⟨trivial, es, rfl, ok, by decide, nil_ints ?_⟩
    unfold restsD at q
    cases e : brk es with
    | nil =>
      simp only [e, if_true] at q
      simp only [List.isEmpty_nil, Bool.not_true, Bool.false_eq_true, if_false]
      try simp only [u_asg, u_gN, u_ret, u_retN, u_skip, u_expr, u_ifs, u_c, u_op, u_neg, u_test, u_and, u_or, u_not, u_if, u_nil, u_cons, u_tup, u_lst, u_callP, u_call, u_b, u_chain, u_andV, u_addI, u_subI, u_mulI, u_divI, u_modI, u_powI, u_cmpI, u_eqI, u_eqS, u_eqB, u_abs, u_intI, u_intB, u_newT, u_newF, u_isN, u_notN, wVar, List.set_cons_zero, List.set_cons_succ, List.getElem?_cons_zero, List.getElem?_cons_succ, List.length_cons, List.length_nil, u_lc, u_for, u_r1, u_r2, u_r3, u_num, u_notV, u_yes, u_w0, u_w1, u_dput, u_get2, u_dget, u_prop, u_fld, u_setF, u_make, u_makeS, u_met, u_calO, u_orT, u_tupIt, u_dc, u_maxDd, u_dnew, u_tupi, ix_p0, ix_p1, wSl, woNone, woSome]
      exact ⟨trivial, es, rfl, ok, fun rs r => fin_of (q rs r)⟩
    | cons b bs =>
      simp only [List.isEmpty_cons, Bool.not_false, if_true]
      have r0 := rsts_is ok
      have := q _ r0
      rw [if_neg (by rw [e]; simp)] at this
      try simp only [u_asg, u_gN, u_ret, u_retN, u_skip, u_expr, u_ifs, u_c, u_op, u_neg, u_test, u_and, u_or, u_not, u_if, u_nil, u_cons, u_tup, u_lst, u_callP, u_call, u_b, u_chain, u_andV, u_addI, u_subI, u_mulI, u_divI, u_modI, u_powI, u_cmpI, u_eqI, u_eqS, u_eqB, u_abs, u_intI, u_intB, u_newT, u_newF, u_isN, u_notN, wVar, List.set_cons_zero, List.set_cons_succ, List.getElem?_cons_zero, List.getElem?_cons_succ, List.length_cons, List.length_nil, u_lc, u_for, u_r1, u_r2, u_r3, u_num, u_notV, u_yes, u_w0, u_w1, u_dput, u_get2, u_dget, u_prop, u_fld, u_setF, u_make, u_makeS, u_met, u_calO, u_orT, u_tupIt, u_dc, u_maxDd, u_dnew, u_tupi, ix_p0, ix_p1, wSl, woNone, woSome]
      exact fin_of this
  · exact ⟨trivial, _, rfl, .inr ⟨i, w, q⟩⟩
theorem p_judge_table (z : Ad) : ∀ ds h Q X, S_judge_table z ds h Q X → w_judge_table z (endsD Q X) (startD 4 ds) h := by
  rintro ds h Q X ⟨x, s, rfl, q⟩
  show w_judge_table z (endsD Q X) [some x, some (.bl s), none, none] h
  unfold w_judge_table
  ((try dsimp only); rw [u_seq]; (try simp only [u_asg, u_gN, u_ret, u_retN, u_skip, u_expr, u_ifs, u_c, u_op, u_neg, u_test, u_and, u_or, u_not, u_if, u_nil, u_cons, u_tup, u_lst, u_callP, u_call, u_b, u_chain, u_andV, u_addI, u_subI, u_mulI, u_divI, u_modI, u_powI, u_cmpI, u_eqI, u_eqS, u_eqB, u_abs, u_intI, u_intB, u_newT, u_newF, u_isN, u_notN, wVar, List.set_cons_zero, List.set_cons_succ, List.getElem?_cons_zero, List.getElem?_cons_succ, List.length_cons, List.length_nil, u_lc, u_for, u_r1, u_r2, u_r3, u_num, u_notV, u_yes, u_w0, u_w1, u_dput, u_get2, u_dget, u_prop, u_fld, u_setF, u_make, u_makeS, u_met, u_calO, u_orT, u_tupIt, u_dc, u_maxDd, u_dnew, u_tupi, ix_p0, ix_p1, wSl, woNone, woSome]))
  rcases q with ⟨es, rfl, ok, q⟩ | ⟨i, w, q⟩
  · refine ⟨trivial, _, rfl, .inl ⟨es, rfl, ok, ?_⟩⟩
    unfold judD at q
    ((try dsimp only); rw [u_seq]; (try simp only [u_asg, u_gN, u_ret, u_retN, u_skip, u_expr, u_ifs, u_c, u_op, u_neg, u_test, u_and, u_or, u_not, u_if, u_nil, u_cons, u_tup, u_lst, u_callP, u_call, u_b, u_chain, u_andV, u_addI, u_subI, u_mulI, u_divI, u_modI, u_powI, u_cmpI, u_eqI, u_eqS, u_eqB, u_abs, u_intI, u_intB, u_newT, u_newF, u_isN, u_notN, wVar, List.set_cons_zero, List.set_cons_succ, List.getElem?_cons_zero, List.getElem?_cons_succ, List.length_cons, List.length_nil, u_lc, u_for, u_r1, u_r2, u_r3, u_num, u_notV, u_yes, u_w0, u_w1, u_dput, u_get2, u_dget, u_prop, u_fld, u_setF, u_make, u_makeS, u_met, u_calO, u_orT, u_tupIt, u_dc, u_maxDd, u_dnew, u_tupi, ix_p0, ix_p1, wSl, woNone, woSome]))
    refine ⟨trivial, es, s, rfl, ok, ?_⟩
    refine ⟨_, rfl, rfl, _, _, rfl, _, _, rfl, rfl, ?_⟩
    ((try dsimp only); rw [u_seq]; (try simp only [u_asg, u_gN, u_ret, u_retN, u_skip, u_expr, u_ifs, u_c, u_op, u_neg, u_test, u_and, u_or, u_not, u_if, u_nil, u_cons, u_tup, u_lst, u_callP, u_call, u_b, u_chain, u_andV, u_addI, u_subI, u_mulI, u_divI, u_modI, u_powI, u_cmpI, u_eqI, u_eqS, u_eqB, u_abs, u_intI, u_intB, u_newT, u_newF, u_isN, u_notN, wVar, List.set_cons_zero, List.set_cons_succ, List.getElem?_cons_zero, List.getElem?_cons_succ, List.length_cons, List.length_nil, u_lc, u_for, u_r1, u_r2, u_r3, u_num, u_notV, u_yes, u_w0, u_w1, u_dput, u_get2, u_dget, u_prop, u_fld, u_setF, u_make, u_makeS, u_met, u_calO, u_orT, u_tupIt, u_dc, u_maxDd, u_dnew, u_tupi, ix_p0, ix_p1, wSl, woNone, woSome]))
    refine ⟨Nat.zero_le _, nil_ints ?_⟩
    by_cases c : refN es s = []
    · rw [if_pos c] at q
      rw [c]
      simp only [List.isEmpty_nil, if_true]
      try simp only [u_asg, u_gN, u_ret, u_retN, u_skip, u_expr, u_ifs, u_c, u_op, u_neg, u_test, u_and, u_or, u_not, u_if, u_nil, u_cons, u_tup, u_lst, u_callP, u_call, u_b, u_chain, u_andV, u_addI, u_subI, u_mulI, u_divI, u_modI, u_powI, u_cmpI, u_eqI, u_eqS, u_eqB, u_abs, u_intI, u_intB, u_newT, u_newF, u_isN, u_notN, wVar, List.set_cons_zero, List.set_cons_succ, List.getElem?_cons_zero, List.getElem?_cons_succ, List.length_cons, List.length_nil, u_lc, u_for, u_r1, u_r2, u_r3, u_num, u_notV, u_yes, u_w0, u_w1, u_dput, u_get2, u_dget, u_prop, u_fld, u_setF, u_make, u_makeS, u_met, u_calO, u_orT, u_tupIt, u_dc, u_maxDd, u_dnew, u_tupi, ix_p0, ix_p1, wSl, woNone, woSome]
      rw [t0 ok.1]
      try simp only [u_asg, u_gN, u_ret, u_retN, u_skip, u_expr, u_ifs, u_c, u_op, u_neg, u_test, u_and, u_or, u_not, u_if, u_nil, u_cons, u_tup, u_lst, u_callP, u_call, u_b, u_chain, u_andV, u_addI, u_subI, u_mulI, u_divI, u_modI, u_powI, u_cmpI, u_eqI, u_eqS, u_eqB, u_abs, u_intI, u_intB, u_newT, u_newF, u_isN, u_notN, wVar, List.set_cons_zero, List.set_cons_succ, List.getElem?_cons_zero, List.getElem?_cons_succ, List.length_cons, List.length_nil, u_lc, u_for, u_r1, u_r2, u_r3, u_num, u_notV, u_yes, u_w0, u_w1, u_dput, u_get2, u_dget, u_prop, u_fld, u_setF, u_make, u_makeS, u_met, u_calO, u_orT, u_tupIt, u_dc, u_maxDd, u_dnew, u_tupi, ix_p0, ix_p1, wSl, woNone, woSome]
      exact ⟨trivial, es, rfl, ok, by decide, fin_of q⟩
    · rw [if_neg c] at q
      unfold pickN at q
      rw [emp_f c]
      simp only [Bool.false_eq_true, if_false]
      try simp only [u_asg, u_gN, u_ret, u_retN, u_skip, u_expr, u_ifs, u_c, u_op, u_neg, u_test, u_and, u_or, u_not, u_if, u_nil, u_cons, u_tup, u_lst, u_callP, u_call, u_b, u_chain, u_andV, u_addI, u_subI, u_mulI, u_divI, u_modI, u_powI, u_cmpI, u_eqI, u_eqS, u_eqB, u_abs, u_intI, u_intB, u_newT, u_newF, u_isN, u_notN, wVar, List.set_cons_zero, List.set_cons_succ, List.getElem?_cons_zero, List.getElem?_cons_succ, List.length_cons, List.length_nil, u_lc, u_for, u_r1, u_r2, u_r3, u_num, u_notV, u_yes, u_w0, u_w1, u_dput, u_get2, u_dget, u_prop, u_fld, u_setF, u_make, u_makeS, u_met, u_calO, u_orT, u_tupIt, u_dc, u_maxDd, u_dnew, u_tupi, ix_p0, ix_p1, wSl, woNone, woSome]
      by_cases d : refW es s = "far"
      · rw [if_pos d] at q
        rw [if_pos (decide_eq_true d), last_ix c]
        exact ⟨by decide, fin_of q⟩
      · rw [if_neg d] at q
        rw [if_neg (by rw [decide_eq_false d]; decide), head_ix c]
        exact ⟨by decide, fin_of q⟩
  · exact ⟨trivial, _, rfl, .inr ⟨i, w, q⟩⟩
theorem flat_ints (ns : List Int) : (ns.map D.int).all flatD = true := by
  rw [List.all_eq_true]
  intro x hx
  obtain ⟨w, _, rfl⟩ := List.mem_map.mp hx
  rfl
theorem in_ints {n : Int} : ∀ ns : List Int, inD (.int n) (ns.map D.int) = decide (n ∈ ns)
  | [] => by rw [List.map_nil]; simp [inD]
  | a :: ns => by
    have ih := in_ints (n := n) ns
    unfold inD at ih ⊢
    rw [List.map_cons, List.any_cons, ih]
    show ((a == n) || decide (n ∈ ns)) = decide (n ∈ a :: ns)
    by_cases c : n = a
    · subst c; simp
    · simp [c, Ne.symm c]
theorem p_check_table (z : Ad) : ∀ ds h Q X, S_check_table z ds h Q X → w_check_table z (endsD Q X) (startD 5 ds) h := by
  rintro ds h Q X ⟨x, v, s, rfl, q⟩
  show w_check_table z (endsD Q X) [some x, some v, some (.bl s), none, none] h
  unfold w_check_table
  ((try dsimp only); rw [u_seq]; (try simp only [u_asg, u_gN, u_ret, u_retN, u_skip, u_expr, u_ifs, u_c, u_op, u_neg, u_test, u_and, u_or, u_not, u_if, u_nil, u_cons, u_tup, u_lst, u_callP, u_call, u_b, u_chain, u_andV, u_addI, u_subI, u_mulI, u_divI, u_modI, u_powI, u_cmpI, u_eqI, u_eqS, u_eqB, u_abs, u_intI, u_intB, u_newT, u_newF, u_isN, u_notN, wVar, List.set_cons_zero, List.set_cons_succ, List.getElem?_cons_zero, List.getElem?_cons_succ, List.length_cons, List.length_nil, u_lc, u_for, u_r1, u_r2, u_r3, u_num, u_notV, u_yes, u_w0, u_w1, u_dput, u_get2, u_dget, u_prop, u_fld, u_setF, u_make, u_makeS, u_met, u_calO, u_orT, u_tupIt, u_dc, u_maxDd, u_dnew, u_tupi, ix_p0, ix_p1, wSl, woNone, woSome]))
  rcases q with ⟨es, rfl, ok, q⟩ | ⟨i, w, q⟩
  · refine ⟨trivial, _, rfl, .inl ⟨es, rfl, ok, ?_⟩⟩
    try dsimp only
    rw [u_seq]
    simp only [u_asg, u_gN, u_ret, u_retN, u_skip, u_expr, u_ifs, u_c, u_op, u_neg, u_test, u_and, u_or, u_not, u_if, u_nil, u_cons, u_tup, u_lst, u_callP, u_call, u_b, u_chain, u_andV, u_addI, u_subI, u_mulI, u_divI, u_modI, u_powI, u_cmpI, u_eqI, u_eqS, u_eqB, u_abs, u_intI, u_intB, u_newT, u_newF, u_isN, u_notN, wVar, List.set_cons_zero, List.set_cons_succ, List.getElem?_cons_zero, List.getElem?_cons_succ, List.length_cons, List.length_nil, u_lc, u_for, u_r1, u_r2, u_r3, u_num, u_notV, u_yes, u_w0, u_w1, u_dput, u_get2, u_dget, u_prop, u_fld, u_setF, u_make, u_makeS, u_met, u_calO, u_orT, u_tupIt, u_dc, u_maxDd, u_dnew, u_tupi, ix_p0, ix_p1, wSl, woNone, woSome, u_isi]
    rcases q with ⟨t, ht, ne, q⟩ | ⟨w, n, rfl, q⟩
    · refine ⟨t, false, ht, kit_tup ht ne, ?_⟩
      simp only [Bool.not_false, if_true, u_asg, u_gN, u_ret, u_retN, u_skip, u_expr, u_ifs, u_c, u_op, u_neg, u_test, u_and, u_or, u_not, u_if, u_nil, u_cons, u_tup, u_lst, u_callP, u_call, u_b, u_chain, u_andV, u_addI, u_subI, u_mulI, u_divI, u_modI, u_powI, u_cmpI, u_eqI, u_eqS, u_eqB, u_abs, u_intI, u_intB, u_newT, u_newF, u_isN, u_notN, wVar, List.set_cons_zero, List.set_cons_succ, List.getElem?_cons_zero, List.getElem?_cons_succ, List.length_cons, List.length_nil, u_lc, u_for, u_r1, u_r2, u_r3, u_num, u_notV, u_yes, u_w0, u_w1, u_dput, u_get2, u_dget, u_prop, u_fld, u_setF, u_make, u_makeS, u_met, u_calO, u_orT, u_tupIt, u_dc, u_maxDd, u_dnew, u_tupi, ix_p0, ix_p1, wSl, woNone, woSome]
      exact fin_of q
    · refine ⟨"tuple", true, rfl, by decide +kernel, ?_⟩
      simp only [Bool.not_true, Bool.false_eq_true, if_false, u_lenT, List.length_cons, List.length_nil]
      refine ⟨by decide, _, rfl, rfl, rfl, ?_⟩
      have e1 : inD (.int ((0 + 1 + 1 : Nat) : Int)) [.int 2, .int 3] = true := by decide
      rw [if_pos rfl, e1]
      simp only [Bool.not_true, Bool.false_eq_true, if_false]
      rw [u_ixTd at0]
      refine ⟨"str", true, rfl, by decide +kernel, ?_⟩
      simp only [Bool.not_true, Bool.false_eq_true, if_false]
      ((try dsimp only); rw [u_seq]; (try simp only [u_asg, u_gN, u_ret, u_retN, u_skip, u_expr, u_ifs, u_c, u_op, u_neg, u_test, u_and, u_or, u_not, u_if, u_nil, u_cons, u_tup, u_lst, u_callP, u_call, u_b, u_chain, u_andV, u_addI, u_subI, u_mulI, u_divI, u_modI, u_powI, u_cmpI, u_eqI, u_eqS, u_eqB, u_abs, u_intI, u_intB, u_newT, u_newF, u_isN, u_notN, wVar, List.set_cons_zero, List.set_cons_succ, List.getElem?_cons_zero, List.getElem?_cons_succ, List.length_cons, List.length_nil, u_lc, u_for, u_r1, u_r2, u_r3, u_num, u_notV, u_yes, u_w0, u_w1, u_dput, u_get2, u_dget, u_prop, u_fld, u_setF, u_make, u_makeS, u_met, u_calO, u_orT, u_tupIt, u_dc, u_maxDd, u_dnew, u_tupi, ix_p0, ix_p1, wSl, woNone, woSome]))
      refine ⟨trivial, es, s, rfl, ok, ?_⟩
      refine ⟨_, rfl, rfl, _, _, rfl, _, _, rfl, rfl, ?_⟩
      ((try dsimp only); rw [u_seq]; (try simp only [u_asg, u_gN, u_ret, u_retN, u_skip, u_expr, u_ifs, u_c, u_op, u_neg, u_test, u_and, u_or, u_not, u_if, u_nil, u_cons, u_tup, u_lst, u_callP, u_call, u_b, u_chain, u_andV, u_addI, u_subI, u_mulI, u_divI, u_modI, u_powI, u_cmpI, u_eqI, u_eqS, u_eqB, u_abs, u_intI, u_intB, u_newT, u_newF, u_isN, u_notN, wVar, List.set_cons_zero, List.set_cons_succ, List.getElem?_cons_zero, List.getElem?_cons_succ, List.length_cons, List.length_nil, u_lc, u_for, u_r1, u_r2, u_r3, u_num, u_notV, u_yes, u_w0, u_w1, u_dput, u_get2, u_dget, u_prop, u_fld, u_setF, u_make, u_makeS, u_met, u_calO, u_orT, u_tupIt, u_dc, u_maxDd, u_dnew, u_tupi, ix_p0, ix_p1, wSl, woNone, woSome]))
      try simp only [u_lenT, List.length_cons, List.length_nil, u_asg, u_gN, u_ret, u_retN, u_skip, u_expr, u_ifs, u_c, u_op, u_neg, u_test, u_and, u_or, u_not, u_if, u_nil, u_cons, u_tup, u_lst, u_callP, u_call, u_b, u_chain, u_andV, u_addI, u_subI, u_mulI, u_divI, u_modI, u_powI, u_cmpI, u_eqI, u_eqS, u_eqB, u_abs, u_intI, u_intB, u_newT, u_newF, u_isN, u_notN, wVar, List.set_cons_zero, List.set_cons_succ, List.getElem?_cons_zero, List.getElem?_cons_succ, List.length_cons, List.length_nil, u_lc, u_for, u_r1, u_r2, u_r3, u_num, u_notV, u_yes, u_w0, u_w1, u_dput, u_get2, u_dget, u_prop, u_fld, u_setF, u_make, u_makeS, u_met, u_calO, u_orT, u_tupIt, u_dc, u_maxDd, u_dnew, u_tupi, ix_p0, ix_p1, wSl, woNone, woSome]
      rw [if_neg (by decide), u_ixTd at0, u_eqS]
      dsimp only
      by_cases c : w = refW es s
      · rw [if_pos (decide_eq_true c), u_ixTd at1]
        refine ⟨trivial, .int n, _, rfl, ty_int, ?_⟩
        simp only [decide_true, if_true]
        rw [u_ixTd at1]
        rw [decide_eq_true c, Bool.true_and] at q
        refine ⟨_, rfl, rfl, flat_ints _, ?_⟩
        rw [if_neg (by decide), in_ints]
        exact fin_of q
      · rw [if_neg (by rw [decide_eq_false c]; decide)]
        rw [decide_eq_false c, Bool.false_and] at q
        exact fin_of q
  · exact ⟨trivial, _, rfl, .inr ⟨i, w, q⟩⟩
end PT
namespace K37
open PySem PySem.Spec L2 C8 DL PK PT
abbrev S__law_pen (z : Ad) : FSpec := S_pen
abbrev S__law_draw (z : Ad) : FSpec := S_draw
def S__law_heard (z : Ad) : HSpec := fun tl h Q _ => tl h (fun _ h' => Q (.lst [.str "told"]) h') (fun x h' => ∃ v, x = .own z.InvalidTable [("index", v)] ∧ Q (.lst [.str "table", v]) h')
abbrev N_needs : List Str := ["ledger", "found", "above", "offset", "amount"]
abbrev N_need : List Str := ["ledger"]
abbrev N_is_row : List Str := ["value"]
abbrev N_Ledger___init__ : List Str := ["self", "rows", "found", "index", "row", "offset"]
abbrev N_Ledger_rows : List Str := ["self"]
abbrev N_Ledger_greatest : List Str := ["self"]
abbrev N_Ledger___getitem__ : List Str := ["self", "offset"]
abbrev N_need_table : List Str := ["table", "index", "entry"]
abbrev N_is_broken : List Str := ["table", "capacity"]
abbrev N_broken_capacities : List Str := ["table", "capacity"]
abbrev N_first_broken : List Str := ["table"]
abbrev N_rests_of : List Str := ["table", "many", "found", "capacity", "others", "further"]
abbrev N_rests : List Str := ["table"]
abbrev N_told_ledger : List Str := ["table", "found", "rows", "offset"]
abbrev N_rising_capacities : List Str := ["table", "found", "capacity"]
abbrev N_far_offsets : List Str := ["table", "offset", "amount"]
abbrev N_least_written : List Str := ["table", "least"]
abbrev N_refusals : List Str := ["table", "lossless", "broken", "rising"]
abbrev N_judge_table : List Str := ["table", "lossless", "word", "numbers"]
abbrev N_is_account : List Str := ["table", "written", "ledger"]
abbrev N_check_table : List Str := ["table", "value", "lossless", "word", "numbers"]
abbrev N__law_pen : List Str := ["_law_script"]
abbrev N__law_draw : List Str := ["_law_pen_here", "_law_many", "_law_digit", "_law_at", "_law_cell", "_law_great", "_law_mixed"]
abbrev N__law_heard : List Str := ["_law_ask", "_law_caught", "error", "_law_strange"]
abbrev N__law_all_heard : List Str := ["_law_thing", "_law_found"]
abbrev N_law : List Str := ["_law_script", "_law_pen_here", "_law_turn", "_law_entries", "_law_due", "_law_k", "_law_at", "_law_odd", "_law_some", "_law_great"]
/-- the classes of the errors that are caught -/
def errs (z : Ad) : List Addr := [z.InvalidTable]
/-- whose instances they are -/
def xtab (z : Ad) : XTab := [(z.InvalidTable, .ref z.AbsentError, false), (z.InvalidTable, .ref z.Contradiction, false), (z.InvalidTable, .ref z.DifferentModes, false), (z.InvalidTable, .ref z.InvalidAccount, false), (z.InvalidTable, .ref z.InvalidBound, false), (z.InvalidTable, .ref z.InvalidCapacity, false), (z.InvalidTable, .ref z.InvalidMode, false), (z.InvalidTable, .ref z.InvalidNumber, false), (z.InvalidTable, .ref z.InvalidProgram, false), (z.InvalidTable, .ref z.InvalidReading, false), (z.InvalidTable, .ref z.InvalidRow, false), (z.InvalidTable, .ref z.InvalidTable, true), (z.InvalidTable, .ref z.InvalidText, false), (z.InvalidTable, .ref z.Lossy, false), (z.InvalidTable, .ref z.SizeError, false), (z.InvalidTable, .ref z.UnknownCommand, false), (z.InvalidTable, .ty "ValueError", true)]
/-- the tables of the defs that make lambdas -/
def Tb (z : Ad) (h : AH) : Prop := h z.t0 = some (.tab (("_law_all_heard" : Str) ++ ".<locals>." ++ "<lambda>"))
def tellD : D := .lst (List.replicate 6 (.lst [.str "told"]))
def wrongD (i : Int) : D := .lst (List.replicate 6 (.lst [.str "table", .int i]))
def S__law_all_heard (z : Ad) : FSpec := fun ds h Q _ => ∃ x, ds = [x] ∧ Tb z h ∧ ((∃ es, x = tpI es ∧ TOk es ∧ Q tellD h) ∨ ∃ i, WrongT h x i ∧ Q (wrongD i) h)
def S_law (z : Ad) : FSpec := fun ds h Q _ => ∃ js : List Int, ds = [.lk (js.map D.int)] ∧ Tb z h ∧ ∀ h', Q (.bl true) h'
/-! ### the readings -/
def w__law_pen (z : Ad) : WS := (wRet (wLst true (wCons (wB (dListOf false) (wCons (wSl false (wVar 0) woNone (woSome (wC (.int 63)))) wNil)) (wCons (wC (.int 0)) (wCons (wC (.int 0)) wNil)))))
def w__law_draw (z : Ad) : WS := (wSeq (wIfS (wTest (wOp (dCmpI fun i j => decide (j < i)) (wOp dIx (wVar 0) (wC (.int 2))) (wC (.int 0)))) (wSeq (wAsg (wOp dMod (wOp dIx (wVar 0) (wC (.int 2))) (wVar 1)) (gN 2))
  (wSeq (wAsg (wOp dDiv (wOp dIx (wVar 0) (wC (.int 2))) (wVar 1)) (gSubL (wVar 0) (wC (.int 2))))
  (wRet (wVar 2)))) wSkip)
  (wSeq (wAsg (wOp dIx (wVar 0) (wC (.int 1))) (gN 3))
  (wSeq (wAsg (wOp (dAdd false) (wVar 3) (wC (.int 1))) (gSubL (wVar 0) (wC (.int 1))))
  (wSeq (wAsg (wOp (dAdd false) (wOp (dMul false) (wC (.int 70891)) (wVar 3)) (wC (.int 37))) (gN 4))
  (wSeq (wIfS (wTest (wOp (dEq fun b => !b) (wOp dIx (wVar 0) (wC (.int 0))) (wLst false wNil))) (wAsg (wOp dIx (wOp dIx (wVar 0) (wC (.int 0))) (wOp dMod (wVar 3) (wB dLen (wCons (wOp dIx (wVar 0) (wC (.int 0))) wNil)))) (gN 4)) wSkip)
  (wSeq (wIfS (wAnd (wTest (wOp (dCmpI fun i j => decide (i < j)) (wVar 3) (wB dLen (wCons (wOp dIx (wVar 0) (wC (.int 0))) wNil)))) (wTest (wOp (dCmpI fun i j => decide (j ≤ i)) (wB dAbs (wCons (wVar 4) wNil)) (wOp dPow (wC (.int 10)) (wC (.int 18)))))) (wSeq (wAsg (wOp (dAdd false) (wOp (dMul false) (wC (.int 2)) (wB dAbs (wCons (wVar 4) wNil))) (wB dInt (wCons (wOp (dCmpI fun i j => decide (i < j)) (wVar 4) (wC (.int 0))) wNil))) (gN 5))
  (wSeq (wAsg (wOp dDiv (wVar 5) (wVar 1)) (gSubL (wVar 0) (wC (.int 2))))
  (wRet (wOp dMod (wVar 5) (wVar 1))))) wSkip)
  (wSeq (wAsg (wOp dMod (wOp dPow (wOp (dAdd false) (wOp (dAdd false) (wOp (dAdd false) (wOp dMod (wVar 4) (wC (.int 2147483563))) (wOp (dMul false) (wOp (dMul false) (wC (.int 50147)) (wVar 3)) (wVar 3))) (wOp (dMul false) (wC (.int 30011)) (wVar 3))) (wC (.int 67))) (wC (.int 3))) (wC (.int 2147483647))) (gN 6))
  (wSeq (wAsg (wOp dMod (wOp dPow (wOp (dAdd false) (wOp (dAdd false) (wOp (dMul false) (wVar 6) (wOp (dAdd false) (wOp (dMul false) (wC (.int 2)) (wVar 3)) (wC (.int 40009)))) (wOp (dMul false) (wC (.int 17)) (wVar 3))) (wC (.int 11))) (wC (.int 5))) (wC (.int 2147483629))) (gN 6))
  (wRet (wOp dMod (wOp dDiv (wVar 6) (wC (.int 64))) (wVar 1)))))))))))
def w__law_heard (z : Ad) (d : D) (tl : Thk) : WS := (wSeq (wAsg (wC .non) (gN 1))
  (wSeq (wTry (errs z) 4 1 (wExpr (wAct 0 d tl)))
  (wSeq (wIfS (wTest (wOp (dIsN fun b => b) (wVar 1) (wC .non))) (wRet (wLst false (wCons (wC (.str "told")) wNil))) wSkip)
  (wSeq (wAsg (wB (dIsXT (xtab z)) (wCons (wVar 1) (wCons (wTup (wCons (wC (.ref z.InvalidAccount)) (wCons (wC (.ref z.InvalidBound)) (wCons (wC (.ref z.InvalidCapacity)) (wCons (wC (.ref z.InvalidMode)) (wCons (wC (.ref z.InvalidNumber)) wNil)))))) wNil))) (gN 3))
  (wSeq (wAsg (wOrT (wVar 3) (wB (dIsXT (xtab z)) (wCons (wVar 1) (wCons (wTup (wCons (wC (.ref z.InvalidProgram)) (wCons (wC (.ref z.InvalidReading)) (wCons (wC (.ref z.InvalidRow)) (wCons (wC (.ref z.InvalidText)) (wCons (wC (.ref z.Lossy)) wNil)))))) wNil)))) (gN 3))
  (wSeq (wAsg (wOrT (wVar 3) (wB (dIsXT (xtab z)) (wCons (wVar 1) (wCons (wTup (wCons (wC (.ref z.Contradiction)) (wCons (wC (.ref z.DifferentModes)) (wCons (wC (.ref z.UnknownCommand)) (wCons (wC (.ref z.SizeError)) (wCons (wC (.ref z.AbsentError)) wNil)))))) wNil)))) (gN 3))
  (wSeq (wIfS (wOr (wTruth (wVar 3)) (wOr (wNot (wTest (wB (dIsX (xtab z)) (wCons (wVar 1) (wCons (wC (.ref z.InvalidTable)) wNil))))) (wNot (wTest (wB (dIsX (xtab z)) (wCons (wVar 1) (wCons (wC (.ty "ValueError")) wNil))))))) (wRet (wLst false (wCons (wC (.str "other")) wNil))) wSkip)
  (wRet (wLst false (wCons (wC (.str "table")) (wCons (wXFld [z.InvalidTable] "index" (wVar 1)) wNil)))))))))))
def w__law_all_heard (z : Ad) : WS := (wSeq (wAsg (wLst true (wCons (wHeard (S__law_heard z) z.t0 (("_law_all_heard" : Str) ++ ".<locals>." ++ "<lambda>") (wCallP (PT.S_first_broken z) 1 (fun ds _ => ds) (wCons (wVar 0) wNil))) wNil)) (gN 1))
  (wSeq (wExpr (wMethT isL dAppend (wVar 1) (wCons (wHeard (S__law_heard z) z.t0 (("_law_all_heard" : Str) ++ ".<locals>." ++ "<lambda>") (wCall (PT.S_rests z) 0 1 (pickD [0]) wNil (wCons (wVar 0) wNil))) wNil)))
  (wSeq (wExpr (wMethT isL dAppend (wVar 1) (wCons (wHeard (S__law_heard z) z.t0 (("_law_all_heard" : Str) ++ ".<locals>." ++ "<lambda>") (wCallP (PT.S_judge_table z) 1 (pickE [.inl 0, .inr (.bl false)]) (wCons (wVar 0) wNil))) wNil)))
  (wSeq (wExpr (wMethT isL dAppend (wVar 1) (wCons (wHeard (S__law_heard z) z.t0 (("_law_all_heard" : Str) ++ ".<locals>." ++ "<lambda>") (wCall (PT.S_judge_table z) 0 2 (pickD [1, 0]) wNil (wCons (wC (.bl true)) (wCons (wVar 0) wNil)))) wNil)))
  (wSeq (wExpr (wMethT isL dAppend (wVar 1) (wCons (wHeard (S__law_heard z) z.t0 (("_law_all_heard" : Str) ++ ".<locals>." ++ "<lambda>") (wCallP (PT.S_check_table z) 2 (pickE [.inl 0, .inl 1, .inr (.bl false)]) (wCons (wVar 0) (wCons (wTup (wCons (wC (.str "broken")) (wCons (wC (.int 1)) wNil))) wNil)))) wNil)))
  (wSeq (wExpr (wMethT isL dAppend (wVar 1) (wCons (wHeard (S__law_heard z) z.t0 (("_law_all_heard" : Str) ++ ".<locals>." ++ "<lambda>") (wCall (PT.S_check_table z) 2 1 (pickD [0, 1, 2]) (wCons (wVar 0) (wCons (wC .non) wNil)) (wCons (wC (.bl true)) wNil))) wNil)))
  (wRet (wVar 1))))))))
def w_law (z : Ad) : WS := (wSeq (wAsg (wCallP (S__law_pen z) 1 (fun ds _ => ds) (wCons (wVar 0) wNil)) (gN 1))
  (wSeq (wFor (iRng1 (wCons (wC (.int 6)) wNil)) (gN 2) (wSeq (wAsg (wLc true (iRng1 (wCons (wOp (dAdd false) (wC (.int 1)) (wCallP (S__law_draw z) 2 (fun ds _ => ds) (wCons (wVar 1) (wCons (wC (.int 12)) wNil)))) wNil)) (gN 5) wYes (wOp dIx (wLst false (wCons (wC (.int 0)) (wCons (wC (.int 1)) (wCons (wOp dPow (wC (.int 10)) (wC (.int 12))) (wCons (wCallP (S__law_draw z) 2 (fun ds _ => ds) (wCons (wVar 1) (wCons (wC (.int 50)) wNil))) wNil))))) (wCallP (S__law_draw z) 2 (fun ds _ => ds) (wCons (wVar 1) (wCons (wC (.int 4)) wNil)))) [5]) (gN 3))
  (wSeq (wIfS (wTest (wOp (dEq fun b => !b) (wB dRepr (wCons (wCallP (S__law_all_heard z) 1 (fun ds _ => ds) (wCons (wB dTupOf (wCons (wVar 3) wNil)) wNil)) wNil)) (wB dRepr (wCons (wOp (dMul false) (wLst false (wCons (wLst false (wCons (wC (.str "told")) wNil)) wNil)) (wC (.int 6))) wNil)))) (wRet (wC (.bl false))) wSkip)
  (wSeq (wAsg (wB dLen (wCons (wVar 3) wNil)) (gN 4))
  (wSeq (wFor (iRng1 (wCons (wOp (dAdd false) (wC (.int 1)) (wCallP (S__law_draw z) 2 (fun ds _ => ds) (wCons (wVar 1) (wCons (wC (.int 2)) wNil)))) wNil)) (gN 5) (wSeq (wAsg (wCallP (S__law_draw z) 2 (fun ds _ => ds) (wCons (wVar 1) (wCons (wB dLen (wCons (wVar 3) wNil)) wNil))) (gN 6))
  (wSeq (wAsg (wLst false (wCons (wNeg (wC (.int 1))) (wCons (wC (.bl true)) (wCons (wC (.bl false)) (wCons (wC .non) (wCons (wC (.str "3")) (wCons (wTup (wCons (wC (.int 1)) wNil)) (wCons (wLst false (wCons (wC (.int 0)) wNil)) (wCons wDnewF (wCons (wOp (dAdd false) (wOp dPow (wC (.int 10)) (wC (.int 12))) (wC (.int 1))) (wCons (wOp dPow (wC (.int 10)) (wC (.int 59))) (wCons (wOp dSub (wC (.int 0)) (wOp dPow (wC (.int 10)) (wC (.int 59)))) (wCons (wC (.str "")) wNil))))))))))))) (gN 7))
  (wSeq (wAsg (wOp dIx (wVar 7) (wCallP (S__law_draw z) 2 (fun ds _ => ds) (wCons (wVar 1) (wCons (wC (.int 12)) wNil)))) (gSubL (wVar 3) (wVar 6)))
  (wAsg (wB dMin1 (wCons (wLst false (wCons (wVar 4) (wCons (wVar 6) wNil))) wNil)) (gN 4))))))
  (wSeq (wIfS (wTest (wOp (dEq fun b => !b) (wB dRepr (wCons (wCallP (S__law_all_heard z) 1 (fun ds _ => ds) (wCons (wB dTupOf (wCons (wVar 3) wNil)) wNil)) wNil)) (wB dRepr (wCons (wOp (dMul false) (wLst false (wCons (wLst false (wCons (wC (.str "table")) (wCons (wVar 4) wNil))) wNil)) (wC (.int 6))) wNil)))) (wRet (wC (.bl false))) wSkip)
  (wSeq (wAsg (wLst false (wCons (wVar 3) (wCons (wLstRg false (wC (.int 3))) (wCons (wC .non) (wCons wDnewF (wCons (wDisp [((wC (.int 0)), (wC (.int 1)))]) (wCons (wC (.str "")) (wCons (wC (.str "12")) (wCons (wC (.bl true)) (wCons (wC (.int 5)) (wCons (wTup wNil) (wCons (wOp dMulT (wTup (wCons (wC (.int 1)) wNil)) (wC (.int 401))) (wCons (wOp dMulT (wTup (wCons (wC .non) wNil)) (wC (.int 500))) (wCons (wLst false (wCons (wC (.int 1)) wNil)) wNil)))))))))))))) (gN 8))
  (wIfS (wTest (wOp (dEq fun b => !b) (wB dRepr (wCons (wCallP (S__law_all_heard z) 1 (fun ds _ => ds) (wCons (wOp dIx (wVar 8) (wCallP (S__law_draw z) 2 (fun ds _ => ds) (wCons (wVar 1) (wCons (wC (.int 13)) wNil)))) wNil)) wNil)) (wB dRepr (wCons (wOp (dMul false) (wLst false (wCons (wLst false (wCons (wC (.str "table")) (wCons (wNeg (wC (.int 1))) wNil))) wNil)) (wC (.int 6))) wNil)))) (wRet (wC (.bl false))) wSkip))))))))
  (wSeq (wAsg (wOp dMulT (wTup (wCons (wOp dPow (wC (.int 10)) (wC (.int 12))) wNil)) (wC (.int 400))) (gN 9))
  (wRet (wAndV (wOp (dEq fun b => b) (wCallP (S__law_all_heard z) 1 (fun ds _ => ds) (wCons (wVar 9) wNil)) (wOp (dMul false) (wLst false (wCons (wLst false (wCons (wC (.str "told")) wNil)) wNil)) (wC (.int 6)))) (wAndV (wOp (dIsN fun b => b) (wCallP (PT.S_first_broken z) 1 (fun ds _ => ds) (wCons (wVar 9) wNil)) (wC .non)) (wOp (dEq fun b => b) (wCallP (PT.S_rests z) 1 (fun ds _ => ds) (wCons (wVar 9) wNil)) (wOp dMulT (wTup (wCons (wC (.int 0)) wNil)) (wC (.int 400))))))))))
theorem mo__law_heard (z : Ad) : MoH (S__law_heard z) := fun t mt h Q Q' X X' hq hx q => mt _ _ _ _ _ (fun _ h z => hq _ h z) (fun x h ⟨v, e, z⟩ => ⟨v, e, hq _ _ z⟩) q
theorem len__law_all_heard (z : Ad) : ∀ ds h Q X, S__law_all_heard z ds h Q X → ds.length = 1 := fun _ _ _ _ ⟨_, e, _⟩ => by rw [e]; rfl
theorem mo__law_all_heard (z : Ad) : MoF (S__law_all_heard z) := fun _ _ _ _ _ _ hq hx ⟨x, e, t, q⟩ => ⟨x, e, t, q.imp (fun ⟨es, a, b, c⟩ => ⟨es, a, b, hq _ _ c⟩) fun ⟨i, a, b⟩ => ⟨i, a, hq _ _ b⟩⟩
theorem len_law (z : Ad) : ∀ ds h Q X, S_law z ds h Q X → ds.length = 1 := fun _ _ _ _ ⟨_, e, _⟩ => by rw [e]; rfl
theorem mo_law (z : Ad) : MoF (S_law z) := fun _ _ _ _ _ _ hq _ ⟨a, e, o, q⟩ => ⟨a, e, o, fun h' => hq _ _ (q h')⟩
theorem law_at (z : Ad) : ∀ (js : List Int) (h : AH), js.length ≤ 63 → Tb z h → S_law z [.lk (js.map D.int)] h (fun d _ => d = .bl true) (fun _ _ => False) := fun js h _ t => ⟨js, rfl, t, fun _ => rfl⟩
end K37
namespace K37
open PySem PySem.Spec L2 C8 DL PK PT
theorem isAny_false {M : XTab} {C : Addr} : ∀ {cs : List D}, (∀ c ∈ cs, (C, c, false) ∈ M) → IsAny M C cs false
  | [], _ => .nil
  | c :: cs, h => .cons (b := false) (r := false) (h c List.mem_cons_self) (isAny_false fun d hd => h d (List.mem_cons_of_mem _ hd))
theorem u_isXn {f : Bool → Bool} {C : Addr} {fs : List (Str × D)} {h : AH} {Q : KD} : dIsN f (.xob C fs) .non h Q = Q (.bl (f false)) h := rfl
theorem p__law_heard (z : Ad) : ∀ d tl, MoK tl → ∀ h Q X, S__law_heard z tl h Q X → w__law_heard z d tl (endsD Q X) (startD 4 [d]) h := by
  intro d tl mt h Q X q
  show w__law_heard z d tl (endsD Q X) [some d, none, none, none] h
  unfold w__law_heard
  ((try dsimp only); rw [u_seq]; (try simp only [u_asg, u_gN, u_ret, u_retN, u_skip, u_expr, u_ifs, u_c, u_op, u_neg, u_test, u_and, u_or, u_not, u_if, u_nil, u_cons, u_tup, u_lst, u_callP, u_call, u_b, u_chain, u_andV, u_addI, u_subI, u_mulI, u_divI, u_modI, u_powI, u_cmpI, u_eqI, u_eqS, u_eqB, u_abs, u_intI, u_intB, u_newT, u_newF, u_isN, u_notN, wVar, List.set_cons_zero, List.set_cons_succ, List.getElem?_cons_zero, List.getElem?_cons_succ, List.length_cons, List.length_nil, u_lc, u_for, u_r1, u_r2, u_r3, u_num, u_notV, u_yes, u_w0, u_w1, u_dput, u_get2, u_dget, u_prop, u_fld, u_setF, u_make, u_makeS, u_met, u_calO, u_orT, u_tupIt, u_dc, u_maxDd, u_dnew, u_tupi, ix_p0, ix_p1, wSl, woNone, woSome]))
  rw [u_seq, u_try, u_expr]
  refine ⟨rfl, mt _ _ _ _ _ (fun _ h' q => ?_) (fun x h' q => ?_) q⟩
  · dsimp only
    rw [u_seq]
    simp only [u_asg, u_gN, u_ret, u_retN, u_skip, u_expr, u_ifs, u_c, u_op, u_neg, u_test, u_and, u_or, u_not, u_if, u_nil, u_cons, u_tup, u_lst, u_callP, u_call, u_b, u_chain, u_andV, u_addI, u_subI, u_mulI, u_divI, u_modI, u_powI, u_cmpI, u_eqI, u_eqS, u_eqB, u_abs, u_intI, u_intB, u_newT, u_newF, u_isN, u_notN, wVar, List.set_cons_zero, List.set_cons_succ, List.getElem?_cons_zero, List.getElem?_cons_succ, List.length_cons, List.length_nil, u_lc, u_for, u_r1, u_r2, u_r3, u_num, u_notV, u_yes, u_w0, u_w1, u_dput, u_get2, u_dget, u_prop, u_fld, u_setF, u_make, u_makeS, u_met, u_calO, u_orT, u_tupIt, u_dc, u_maxDd, u_dnew, u_tupi, ix_p0, ix_p1, wSl, woNone, woSome]
    rw [if_pos trivial]
    exact ⟨by decide, fin_of q⟩
  · obtain ⟨v, rfl, q⟩ := q
    refine ⟨by simp [errs], ?_⟩
    dsimp only [List.replicate, List.set_cons_succ, List.set_cons_zero]
    rw [u_seq]
    simp only [u_asg, u_gN, u_ret, u_retN, u_skip, u_expr, u_ifs, u_c, u_op, u_neg, u_test, u_and, u_or, u_not, u_if, u_nil, u_cons, u_tup, u_lst, u_callP, u_call, u_b, u_chain, u_andV, u_addI, u_subI, u_mulI, u_divI, u_modI, u_powI, u_cmpI, u_eqI, u_eqS, u_eqB, u_abs, u_intI, u_intB, u_newT, u_newF, u_isN, u_notN, wVar, List.set_cons_zero, List.set_cons_succ, List.getElem?_cons_zero, List.getElem?_cons_succ, List.length_cons, List.length_nil, u_lc, u_for, u_r1, u_r2, u_r3, u_num, u_notV, u_yes, u_w0, u_w1, u_dput, u_get2, u_dget, u_prop, u_fld, u_setF, u_make, u_makeS, u_met, u_calO, u_orT, u_tupIt, u_dc, u_maxDd, u_dnew, u_tupi, ix_p0, ix_p1, wSl, woNone, woSome]
    rw [u_isXn]
    simp only [Bool.false_eq_true, if_false]
    ((try dsimp only); rw [u_seq]; (try simp only [u_asg, u_gN, u_ret, u_retN, u_skip, u_expr, u_ifs, u_c, u_op, u_neg, u_test, u_and, u_or, u_not, u_if, u_nil, u_cons, u_tup, u_lst, u_callP, u_call, u_b, u_chain, u_andV, u_addI, u_subI, u_mulI, u_divI, u_modI, u_powI, u_cmpI, u_eqI, u_eqS, u_eqB, u_abs, u_intI, u_intB, u_newT, u_newF, u_isN, u_notN, wVar, List.set_cons_zero, List.set_cons_succ, List.getElem?_cons_zero, List.getElem?_cons_succ, List.length_cons, List.length_nil, u_lc, u_for, u_r1, u_r2, u_r3, u_num, u_notV, u_yes, u_w0, u_w1, u_dput, u_get2, u_dget, u_prop, u_fld, u_setF, u_make, u_makeS, u_met, u_calO, u_orT, u_tupIt, u_dc, u_maxDd, u_dnew, u_tupi, ix_p0, ix_p1, wSl, woNone, woSome]))
    refine ⟨by decide, _, _, _, false, rfl, by simp, isAny_false (by simp [xtab]), ?_⟩
    ((try dsimp only); rw [u_seq]; (try simp only [u_asg, u_gN, u_ret, u_retN, u_skip, u_expr, u_ifs, u_c, u_op, u_neg, u_test, u_and, u_or, u_not, u_if, u_nil, u_cons, u_tup, u_lst, u_callP, u_call, u_b, u_chain, u_andV, u_addI, u_subI, u_mulI, u_divI, u_modI, u_powI, u_cmpI, u_eqI, u_eqS, u_eqB, u_abs, u_intI, u_intB, u_newT, u_newF, u_isN, u_notN, wVar, List.set_cons_zero, List.set_cons_succ, List.getElem?_cons_zero, List.getElem?_cons_succ, List.length_cons, List.length_nil, u_lc, u_for, u_r1, u_r2, u_r3, u_num, u_notV, u_yes, u_w0, u_w1, u_dput, u_get2, u_dget, u_prop, u_fld, u_setF, u_make, u_makeS, u_met, u_calO, u_orT, u_tupIt, u_dc, u_maxDd, u_dnew, u_tupi, ix_p0, ix_p1, wSl, woNone, woSome]))
    refine ⟨false, rfl, ?_⟩
    rw [if_neg (by decide)]
    refine ⟨by decide, _, _, _, false, rfl, by simp, isAny_false (by simp [xtab]), ?_⟩
    ((try dsimp only); rw [u_seq]; (try simp only [u_asg, u_gN, u_ret, u_retN, u_skip, u_expr, u_ifs, u_c, u_op, u_neg, u_test, u_and, u_or, u_not, u_if, u_nil, u_cons, u_tup, u_lst, u_callP, u_call, u_b, u_chain, u_andV, u_addI, u_subI, u_mulI, u_divI, u_modI, u_powI, u_cmpI, u_eqI, u_eqS, u_eqB, u_abs, u_intI, u_intB, u_newT, u_newF, u_isN, u_notN, wVar, List.set_cons_zero, List.set_cons_succ, List.getElem?_cons_zero, List.getElem?_cons_succ, List.length_cons, List.length_nil, u_lc, u_for, u_r1, u_r2, u_r3, u_num, u_notV, u_yes, u_w0, u_w1, u_dput, u_get2, u_dget, u_prop, u_fld, u_setF, u_make, u_makeS, u_met, u_calO, u_orT, u_tupIt, u_dc, u_maxDd, u_dnew, u_tupi, ix_p0, ix_p1, wSl, woNone, woSome]))
    refine ⟨false, rfl, ?_⟩
    rw [if_neg (by decide)]
    refine ⟨by decide, _, _, _, false, rfl, by simp, isAny_false (by simp [xtab]), ?_⟩
    ((try dsimp only); rw [u_seq]; (try simp only [u_asg, u_gN, u_ret, u_retN, u_skip, u_expr, u_ifs, u_c, u_op, u_neg, u_test, u_and, u_or, u_not, u_if, u_nil, u_cons, u_tup, u_lst, u_callP, u_call, u_b, u_chain, u_andV, u_addI, u_subI, u_mulI, u_divI, u_modI, u_powI, u_cmpI, u_eqI, u_eqS, u_eqB, u_abs, u_intI, u_intB, u_newT, u_newF, u_isN, u_notN, wVar, List.set_cons_zero, List.set_cons_succ, List.getElem?_cons_zero, List.getElem?_cons_succ, List.length_cons, List.length_nil, u_lc, u_for, u_r1, u_r2, u_r3, u_num, u_notV, u_yes, u_w0, u_w1, u_dput, u_get2, u_dget, u_prop, u_fld, u_setF, u_make, u_makeS, u_met, u_calO, u_orT, u_tupIt, u_dc, u_maxDd, u_dnew, u_tupi, ix_p0, ix_p1, wSl, woNone, woSome]))
    rw [u_truth]
    simp only [u_asg, u_gN, u_ret, u_retN, u_skip, u_expr, u_ifs, u_c, u_op, u_neg, u_test, u_and, u_or, u_not, u_if, u_nil, u_cons, u_tup, u_lst, u_callP, u_call, u_b, u_chain, u_andV, u_addI, u_subI, u_mulI, u_divI, u_modI, u_powI, u_cmpI, u_eqI, u_eqS, u_eqB, u_abs, u_intI, u_intB, u_newT, u_newF, u_isN, u_notN, wVar, List.set_cons_zero, List.set_cons_succ, List.getElem?_cons_zero, List.getElem?_cons_succ, List.length_cons, List.length_nil, u_lc, u_for, u_r1, u_r2, u_r3, u_num, u_notV, u_yes, u_w0, u_w1, u_dput, u_get2, u_dget, u_prop, u_fld, u_setF, u_make, u_makeS, u_met, u_calO, u_orT, u_tupIt, u_dc, u_maxDd, u_dnew, u_tupi, ix_p0, ix_p1, wSl, woNone, woSome]
    refine ⟨false, rfl, ?_⟩
    rw [if_neg (by decide)]
    refine ⟨_, _, _, true, rfl, by simp [xtab], ?_⟩
    simp only [Bool.not_true, Bool.false_eq_true, if_false]
    refine ⟨_, _, _, true, rfl, by simp [xtab], ?_⟩
    simp only [Bool.not_true, Bool.false_eq_true, if_false]
    exact ⟨_, _, v, rfl, by simp, rfl, by decide, fin_of q⟩
theorem wrong_up {h : AH} {x : D} {i : Int} {p : Addr} {o : AO} (e : h p = none) (w : WrongT h x i) : WrongT (up h p o) x i := by
  have ty : ∀ {y : D} {t : String}, tyD h y = some t → tyD (up h p o) y = some t := by
    intro y t ht
    cases y with
    | ref a =>
      have ne : a ≠ p := by
        rintro rfl
        simp [tyD, cur, e] at ht
      have : cur (up h p o) (.ref a) = cur h (.ref a) := by
        unfold cur
        dsimp only
        rw [up_ne ne]
      unfold tyD at ht ⊢
      rw [this]; exact ht
    | _ => exact ht
  rcases w with ⟨rfl, ⟨t, ht, ne⟩ | w⟩ | ⟨xs, k, rfl, l1, l2, hy, hk, rfl⟩
  · exact .inl ⟨rfl, .inl ⟨t, ty ht, ne⟩⟩
  · exact .inl ⟨rfl, .inr w⟩
  · refine .inr ⟨xs, k, rfl, l1, l2, fun y hy2 => ?_, hk, rfl⟩
    obtain ⟨t, ht⟩ := Option.isSome_iff_exists.mp (hy y hy2)
    rw [ty ht]; rfl
/-- what is heard of each function -/
def oneD : Option Int → D
  | none => .lst [.str "told"]
  | some i => .lst [.str "table", .int i]
/-- a value as a table, with what is heard of it -/
def Thing (h : AH) (x : D) (o : Option Int) : Prop := (∃ es, x = tpI es ∧ TOk es ∧ o = none) ∨ ∃ i, WrongT h x i ∧ o = some i
theorem thing_up {h : AH} {x : D} {o : Option Int} {p : Addr} {u : AO} (e : h p = none) (w : Thing h x o) : Thing (up h p u) x o := w.imp id fun ⟨i, a, b⟩ => ⟨i, wrong_up e a, b⟩
theorem tb_up {z : Ad} {h : AH} {p : Addr} {o : AO} (e : h p = none) (t : Tb z h) : Tb z (up h p o) := by
  have ne : z.t0 ≠ p := by
    rintro rfl
    have t : h z.t0 = _ := t
    rw [e] at t; cases t
  show up h p o z.t0 = _
  rw [up_ne ne]; exact t
section
variable {z : Ad} {h : AH} {x : D} {o : Option Int} {Q : KD} {X : KX} {T : Thk}
theorem hr_first (hT : ∀ Q X, PT.S_first_broken z [x] h Q X → T h Q X) (w : Thing h x o) (q : Q (oneD o) h) : S__law_heard z T h Q X := by
  refine hT _ _ ?_
  rcases w with ⟨es, rfl, ok, rfl⟩ | ⟨i, w, rfl⟩
  · exact ⟨_, rfl, .inl ⟨es, rfl, ok, q⟩⟩
  · exact ⟨_, rfl, .inr ⟨i, w, _, rfl, q⟩⟩
theorem hr_rests (hT : ∀ Q X, PT.S_rests z [x] h Q X → T h Q X) (w : Thing h x o) (q : Q (oneD o) h) : S__law_heard z T h Q X := by
  refine hT _ _ ?_
  rcases w with ⟨es, rfl, ok, rfl⟩ | ⟨i, w, rfl⟩
  · exact ⟨_, rfl, .inl ⟨es, rfl, ok, fun _ _ => q⟩⟩
  · exact ⟨_, rfl, .inr ⟨i, w, _, rfl, q⟩⟩
theorem hr_judge {s : Bool} (hT : ∀ Q X, PT.S_judge_table z [x, .bl s] h Q X → T h Q X) (w : Thing h x o) (q : Q (oneD o) h) : S__law_heard z T h Q X := by
  refine hT _ _ ?_
  rcases w with ⟨es, rfl, ok, rfl⟩ | ⟨i, w, rfl⟩
  · exact ⟨_, s, rfl, .inl ⟨es, rfl, ok, q⟩⟩
  · exact ⟨_, s, rfl, .inr ⟨i, w, _, rfl, q⟩⟩
theorem hr_check1 {s : Bool} {v : Str} {n : Int} (hT : ∀ Q X, PT.S_check_table z [x, .tup [.str v, .int n], .bl s] h Q X → T h Q X) (w : Thing h x o) (q : Q (oneD o) h) : S__law_heard z T h Q X := by
  refine hT _ _ ?_
  rcases w with ⟨es, rfl, ok, rfl⟩ | ⟨i, w, rfl⟩
  · exact ⟨_, _, s, rfl, .inl ⟨es, rfl, ok, .inr ⟨v, n, rfl, q⟩⟩⟩
  · exact ⟨_, _, s, rfl, .inr ⟨i, w, _, rfl, q⟩⟩
theorem hr_check2 {s : Bool} (hT : ∀ Q X, PT.S_check_table z [x, .non, .bl s] h Q X → T h Q X) (w : Thing h x o) (q : Q (oneD o) h) : S__law_heard z T h Q X := by
  refine hT _ _ ?_
  rcases w with ⟨es, rfl, ok, rfl⟩ | ⟨i, w, rfl⟩
  · exact ⟨_, _, s, rfl, .inl ⟨es, rfl, ok, .inl ⟨"NoneType", rfl, by decide, q⟩⟩⟩
  · exact ⟨_, _, s, rfl, .inr ⟨i, w, _, rfl, q⟩⟩
end
theorem u_heard {HS : HSpec} {P : Addr} {q : Str} {we : WE} {ρ : EnvD} {h : AH} {Q : KD} {X : KX} : wHeard HS P q we ρ h Q X = (h P = some (.tab q) ∧ HS (we ρ) h Q X) := rfl
theorem p__law_all_heard (z : Ad) : ∀ ds h Q X, S__law_all_heard z ds h Q X → w__law_all_heard z (endsD Q X) (startD 2 ds) h := by
  rintro ds h Q X ⟨x, rfl, t, q⟩
  obtain ⟨o, w, q⟩ : ∃ o, Thing h x o ∧ Q (.lst (List.replicate 6 (oneD o))) h := by
    rcases q with ⟨es, rfl, ok, q⟩ | ⟨i, w, q⟩
    · exact ⟨none, .inl ⟨es, rfl, ok, rfl⟩, q⟩
    · exact ⟨some i, .inr ⟨i, w, rfl⟩, q⟩
  show w__law_all_heard z (endsD Q X) [some x, none] h
  unfold w__law_all_heard
  rw [u_seq]
  simp only [u_asg, u_gN, u_ret, u_retN, u_skip, u_expr, u_ifs, u_c, u_op, u_neg, u_test, u_and, u_or, u_not, u_if, u_nil, u_cons, u_tup, u_lst, u_callP, u_call, u_b, u_chain, u_andV, u_addI, u_subI, u_mulI, u_divI, u_modI, u_powI, u_cmpI, u_eqI, u_eqS, u_eqB, u_abs, u_intI, u_intB, u_newT, u_newF, u_isN, u_notN, wVar, List.set_cons_zero, List.set_cons_succ, List.getElem?_cons_zero, List.getElem?_cons_succ, List.length_cons, List.length_nil, u_lc, u_for, u_r1, u_r2, u_r3, u_num, u_notV, u_yes, u_w0, u_w1, u_dput, u_get2, u_dget, u_prop, u_fld, u_setF, u_make, u_makeS, u_met, u_calO, u_orT, u_tupIt, u_dc, u_maxDd, u_dnew, u_tupi, ix_p0, ix_p1, wSl, woNone, woSome, u_heard]
  refine ⟨t, hr_first (fun Q X s => ⟨rfl, s⟩) w ⟨by decide, fun p hp => ?_⟩⟩
  rw [u_seq, u_expr]
  simp only [wMethT, u_asg, u_gN, u_ret, u_retN, u_skip, u_expr, u_ifs, u_c, u_op, u_neg, u_test, u_and, u_or, u_not, u_if, u_nil, u_cons, u_tup, u_lst, u_callP, u_call, u_b, u_chain, u_andV, u_addI, u_subI, u_mulI, u_divI, u_modI, u_powI, u_cmpI, u_eqI, u_eqS, u_eqB, u_abs, u_intI, u_intB, u_newT, u_newF, u_isN, u_notN, wVar, List.set_cons_zero, List.set_cons_succ, List.getElem?_cons_zero, List.getElem?_cons_succ, List.length_cons, List.length_nil, u_lc, u_for, u_r1, u_r2, u_r3, u_num, u_notV, u_yes, u_w0, u_w1, u_dput, u_get2, u_dget, u_prop, u_fld, u_setF, u_make, u_makeS, u_met, u_calO, u_orT, u_tupIt, u_dc, u_maxDd, u_dnew, u_tupi, ix_p0, ix_p1, wSl, woNone, woSome, u_heard]
  refine ⟨⟨_, by simp [lstOf]; rfl⟩, tb_up hp t, hr_rests (fun Q X s => ⟨rfl, rfl, s⟩) (thing_up hp w) ?_⟩
  refine ⟨_, _, _, rfl, rfl, up_same, by simp [sizeLine_eq], ?_⟩
  rw [up_up]
  simp only [List.cons_append, List.nil_append]
  rw [u_seq, u_expr]
  simp only [wMethT, u_asg, u_gN, u_ret, u_retN, u_skip, u_expr, u_ifs, u_c, u_op, u_neg, u_test, u_and, u_or, u_not, u_if, u_nil, u_cons, u_tup, u_lst, u_callP, u_call, u_b, u_chain, u_andV, u_addI, u_subI, u_mulI, u_divI, u_modI, u_powI, u_cmpI, u_eqI, u_eqS, u_eqB, u_abs, u_intI, u_intB, u_newT, u_newF, u_isN, u_notN, wVar, List.set_cons_zero, List.set_cons_succ, List.getElem?_cons_zero, List.getElem?_cons_succ, List.length_cons, List.length_nil, u_lc, u_for, u_r1, u_r2, u_r3, u_num, u_notV, u_yes, u_w0, u_w1, u_dput, u_get2, u_dget, u_prop, u_fld, u_setF, u_make, u_makeS, u_met, u_calO, u_orT, u_tupIt, u_dc, u_maxDd, u_dnew, u_tupi, ix_p0, ix_p1, wSl, woNone, woSome, u_heard]
  refine ⟨⟨_, by simp [lstOf]; rfl⟩, tb_up hp t, hr_judge (fun Q X s => ⟨rfl, s⟩) (thing_up hp w) ?_⟩
  refine ⟨_, _, _, rfl, rfl, up_same, by simp [sizeLine_eq], ?_⟩
  rw [up_up]
  simp only [List.cons_append, List.nil_append]
  rw [u_seq, u_expr]
  simp only [wMethT, u_asg, u_gN, u_ret, u_retN, u_skip, u_expr, u_ifs, u_c, u_op, u_neg, u_test, u_and, u_or, u_not, u_if, u_nil, u_cons, u_tup, u_lst, u_callP, u_call, u_b, u_chain, u_andV, u_addI, u_subI, u_mulI, u_divI, u_modI, u_powI, u_cmpI, u_eqI, u_eqS, u_eqB, u_abs, u_intI, u_intB, u_newT, u_newF, u_isN, u_notN, wVar, List.set_cons_zero, List.set_cons_succ, List.getElem?_cons_zero, List.getElem?_cons_succ, List.length_cons, List.length_nil, u_lc, u_for, u_r1, u_r2, u_r3, u_num, u_notV, u_yes, u_w0, u_w1, u_dput, u_get2, u_dget, u_prop, u_fld, u_setF, u_make, u_makeS, u_met, u_calO, u_orT, u_tupIt, u_dc, u_maxDd, u_dnew, u_tupi, ix_p0, ix_p1, wSl, woNone, woSome, u_heard]
  refine ⟨⟨_, by simp [lstOf]; rfl⟩, tb_up hp t, hr_judge (fun Q X s => ⟨rfl, rfl, s⟩) (thing_up hp w) ?_⟩
  refine ⟨_, _, _, rfl, rfl, up_same, by simp [sizeLine_eq], ?_⟩
  rw [up_up]
  simp only [List.cons_append, List.nil_append]
  rw [u_seq, u_expr]
  simp only [wMethT, u_asg, u_gN, u_ret, u_retN, u_skip, u_expr, u_ifs, u_c, u_op, u_neg, u_test, u_and, u_or, u_not, u_if, u_nil, u_cons, u_tup, u_lst, u_callP, u_call, u_b, u_chain, u_andV, u_addI, u_subI, u_mulI, u_divI, u_modI, u_powI, u_cmpI, u_eqI, u_eqS, u_eqB, u_abs, u_intI, u_intB, u_newT, u_newF, u_isN, u_notN, wVar, List.set_cons_zero, List.set_cons_succ, List.getElem?_cons_zero, List.getElem?_cons_succ, List.length_cons, List.length_nil, u_lc, u_for, u_r1, u_r2, u_r3, u_num, u_notV, u_yes, u_w0, u_w1, u_dput, u_get2, u_dget, u_prop, u_fld, u_setF, u_make, u_makeS, u_met, u_calO, u_orT, u_tupIt, u_dc, u_maxDd, u_dnew, u_tupi, ix_p0, ix_p1, wSl, woNone, woSome, u_heard]
  refine ⟨⟨_, by simp [lstOf]; rfl⟩, tb_up hp t, hr_check1 (fun Q X s => ⟨by decide, rfl, s⟩) (thing_up hp w) ?_⟩
  refine ⟨_, _, _, rfl, rfl, up_same, by simp [sizeLine_eq], ?_⟩
  rw [up_up]
  simp only [List.cons_append, List.nil_append]
  rw [u_seq, u_expr]
  simp only [wMethT, u_asg, u_gN, u_ret, u_retN, u_skip, u_expr, u_ifs, u_c, u_op, u_neg, u_test, u_and, u_or, u_not, u_if, u_nil, u_cons, u_tup, u_lst, u_callP, u_call, u_b, u_chain, u_andV, u_addI, u_subI, u_mulI, u_divI, u_modI, u_powI, u_cmpI, u_eqI, u_eqS, u_eqB, u_abs, u_intI, u_intB, u_newT, u_newF, u_isN, u_notN, wVar, List.set_cons_zero, List.set_cons_succ, List.getElem?_cons_zero, List.getElem?_cons_succ, List.length_cons, List.length_nil, u_lc, u_for, u_r1, u_r2, u_r3, u_num, u_notV, u_yes, u_w0, u_w1, u_dput, u_get2, u_dget, u_prop, u_fld, u_setF, u_make, u_makeS, u_met, u_calO, u_orT, u_tupIt, u_dc, u_maxDd, u_dnew, u_tupi, ix_p0, ix_p1, wSl, woNone, woSome, u_heard]
  refine ⟨⟨_, by simp [lstOf]; rfl⟩, tb_up hp t, hr_check2 (fun Q X s => ⟨rfl, rfl, s⟩) (thing_up hp w) ?_⟩
  refine ⟨_, _, _, rfl, rfl, up_same, by simp [sizeLine_eq], ?_⟩
  rw [up_up]
  simp only [List.cons_append, List.nil_append]
  exact fin_lst hp q
theorem p__law_pen (z : Ad) : ∀ ds h Q X, (S__law_pen z) ds h Q X → (w__law_pen z) (endsD Q X) (startD 1 ds) h := p_pen
theorem len__law_pen (z : Ad) : ∀ ds h Q X, S__law_pen z ds h Q X → ds.length = 1 := len_pen
theorem mo__law_pen (z : Ad) : MoF (S__law_pen z) := mo_pen
theorem p__law_draw (z : Ad) : ∀ ds h Q X, (S__law_draw z) ds h Q X → (w__law_draw z) (endsD Q X) (startD 7 ds) h := p_draw
theorem len__law_draw (z : Ad) : ∀ ds h Q X, S__law_draw z ds h Q X → ds.length = 2 := len_draw
theorem mo__law_draw (z : Ad) : MoF (S__law_draw z) := mo_draw
end K37
namespace K37
open PySem PySem.Spec L2 C8 DL PK PT
/-- an item that cannot stand -/
def bad (e : D) : Bool := !btw e 0 1000000000000
/-- what has a type in every heap -/
def Typed (e : D) : Prop := ∃ t, ∀ h : AH, tyD h e = some t
theorem findIdx_set {p : D → Bool} {v : D} (hv : p v = true) : ∀ (ys : List D) (k : Nat), k < ys.length → (ys.set k v).findIdx p = min (ys.findIdx p) k
  | [], k, h => by simp at h
  | y :: ys, 0, _ => by rw [List.set_cons_zero, List.findIdx_cons, hv]; simp
  | y :: ys, k + 1, h => by
    rw [List.set_cons_succ, List.findIdx_cons, List.findIdx_cons]
    cases p y with
    | true => simp
    | false =>
      rw [cond_false, cond_false, findIdx_set hv ys k (by simpa using h)]
      omega
theorem idx_some {p : D → Bool} {ys : List D} (h : ys.findIdx p < ys.length) : ys.findIdx? p = some (ys.findIdx p) := by
  rw [List.findIdx?_eq_some_iff_getElem]
  refine ⟨h, List.findIdx_getElem, fun j hj => ?_⟩
  have := List.not_of_lt_findIdx hj
  simpa using this
theorem rp_tell : Rp tellD 2 200 := by
  refine (rp_lst (k := 1) (n := 20) (l := 6) (fun x hx => ?_) (by simp)).up (by decide) (by decide)
  obtain rfl := (List.mem_replicate.mp hx).2
  refine (rp_lst (k := 0) (n := 10) (l := 1) (fun x hx => ?_) (by simp)).up (by decide) (by decide)
  obtain rfl : x = .str "told" := by simpa using hx
  exact rp_str (by rw [PyData.shown]; decide +kernel)
theorem rp_wrong {i : Int} (h : i.natAbs < 2 ^ 20) : Rp (wrongD i) 2 600 := by
  refine (rp_lst (k := 1) (n := 80) (l := 6) (fun x hx => ?_) (by simp)).up (by decide) (by decide)
  obtain rfl := (List.mem_replicate.mp hx).2
  refine (rp_lst (k := 0) (n := 30) (l := 2) (fun x hx => ?_) (by simp)).up (by decide) (by decide)
  have : x = .str "table" ∨ x = .int i := by simpa using hx
  rcases this with rfl | rfl
  · exact (rp_str (n := 30) (by rw [PyData.shown]; decide +kernel))
  · exact (rp_int (j := 20) (by decide) (by decide) h).up (by decide) (by decide)
theorem go_six {d : D} {h : AH} {Q : KD} (q : Q (.lst (List.replicate 6 d)) h) : dMul false (.lst [d]) (.int 6) h Q := by
  refine ⟨[d], rfl, by decide, by decide, by simp [sizeLine_eq], ?_⟩
  rw [newL_f]
  exact q
/-- the odd values -/
def oddL : List D := [.int (-1), .bl true, .bl false, .non, .str "3", .tup [.int 1], .lst [.int 0], .dK [], .int (10 ^ Int.toNat 12 + 1), .int (10 ^ Int.toNat 59), .int (0 - 10 ^ Int.toNat 59), .str ""]
theorem odd_at {w : Int} (h0 : 0 ≤ w) (h1 : w < 12) : ∃ e, atI oddL w = some e ∧ bad e = true ∧ Typed e := by
  obtain ⟨x, hx, e⟩ := at_memq (xs := oddL) h0 h1
  refine ⟨x, e, ?_⟩
  have : x = .int (-1) ∨ x = .bl true ∨ x = .bl false ∨ x = .non ∨ x = .str "3" ∨ x = .tup [.int 1] ∨ x = .lst [.int 0] ∨ x = .dK [] ∨ x = .int (10 ^ Int.toNat 12 + 1) ∨ x = .int (10 ^ Int.toNat 59) ∨ x = .int (0 - 10 ^ Int.toNat 59) ∨ x = .str "" := by simpa [oddL] using hx
  rcases this with rfl | rfl | rfl | rfl | rfl | rfl | rfl | rfl | rfl | rfl | rfl | rfl
  all_goals refine ⟨by decide, _, fun h => rfl⟩
theorem pow_ok12 : PowOk 10 12 := ⟨by decide, by decide, by decide⟩
theorem pow_ok59 : PowOk 10 59 := ⟨by decide, by decide, by decide⟩
/-- the great table -/
def G : Int := 10 ^ Int.toNat 12
def gr : List Int := List.replicate 400 G
theorem gr_len : gr.length = 400 := List.length_replicate
theorem gr_ok : TOk gr := ⟨by rw [gr_len]; decide, by rw [gr_len]; decide, fun e he => by obtain rfl := (List.mem_replicate.mp he).2; decide⟩
theorem gr_at {k : Nat} (h : k < 400) : gr.getD k 0 = G := by
  unfold gr
  rw [List.getD_eq_getElem?_getD, List.getElem?_replicate, if_pos h]; rfl
theorem gr_gap {k : Nat} (h : k < 400) : tgap gr k = 0 := by
  unfold tgap tlast
  rw [gr_len, gr_at h, gr_at (by decide)]; omega
theorem gr_brk : brk gr = [] := by
  unfold brk
  rw [List.filterMap_eq_nil_iff]
  intro k hk
  have hk := List.mem_range.mp hk
  rw [gr_len] at hk
  unfold tbad
  rw [gr_gap hk]; simp
def zs4 : List Int := List.replicate 400 0
theorem gr_rests : IsRests gr zs4 := by
  refine ⟨by rw [gr_len]; exact List.length_replicate, fun k hk => ?_, fun r hr => by obtain rfl := (List.mem_replicate.mp hr).2; decide⟩
  rw [gr_len] at hk
  rw [gr_gap hk, Int.zero_ediv]
  have : ∀ n : Nat, (mults zs4 (k + 1) n).sum = 0 := fun n => by
    unfold mults
    have z : ∀ l : List Nat, (l.map fun j => zs4.getD ((j + 1) * (k + 1) - 1) 0).sum = 0 := fun l => by
      induction l with
      | nil => rfl
      | cons a l ih =>
        rw [List.map_cons, List.sum_cons, ih]
        unfold zs4
        rw [List.getD_eq_getElem?_getD, List.getElem?_replicate]
        split <;> rfl
    exact z _
  exact this _
theorem flat_one {n : Nat} {d : D} : (List.replicate n [d]).flatten = List.replicate n d := by simp
theorem go_mulT {d : D} {k : Int} {h : AH} {Q : KD} (h2 : 2 ≤ k) (h3 : k ≤ 16000) (q : Q (.tup (List.replicate k.toNat d)) h) : dMulT (.tup [d]) (.int k) h Q :=
  ⟨[d], k, rfl, rfl, Nat.zero_lt_one, h2, h3, by show 1 ≤ 1000; decide, by rw [flat_one]; exact q⟩
theorem tell_fl : Fl tellD 2 := by
  refine fl_lst fun x hx => ?_
  obtain rfl := (List.mem_replicate.mp hx).2
  refine fl_lst fun x hx => ?_
  obtain rfl : x = .str "told" := by simpa using hx
  exact fl_str (by decide +kernel)
/-- the values that are no table -/
def someL (r d : Addr) : List D := [.ref r, .lst (rgD 3), .non, .dK [], .ref d, .str "", .str "12", .bl true, .int 5, .tup [], .tup (List.replicate (Int.toNat 401) (.int 1)), .tup (List.replicate (Int.toNat 500) .non), .lst [.int 1]]
theorem some_at {r d : Addr} {g : AH} {w : Int} (hr : tyD g (.ref r) = some "list") (hd : tyD g (.ref d) = some "dict") (w0 : 0 ≤ w) (w1 : w < 13) :
    ∃ x, atI (someL r d) w = some x ∧ ((∃ t, tyD g x = some t ∧ t ≠ "tuple") ∨ ∃ xs, x = .tup xs ∧ (xs.length = 0 ∨ 400 < xs.length)) := by
  obtain ⟨x, hx, e⟩ := at_memq (xs := someL r d) w0 (by exact w1)
  refine ⟨x, e, ?_⟩
  have : x = .ref r ∨ x = .lst (rgD 3) ∨ x = .non ∨ x = .dK [] ∨ x = .ref d ∨ x = .str "" ∨ x = .str "12" ∨ x = .bl true ∨ x = .int 5 ∨ x = .tup [] ∨ x = .tup (List.replicate (Int.toNat 401) (.int 1)) ∨ x = .tup (List.replicate (Int.toNat 500) .non) ∨ x = .lst [.int 1] := by simpa [someL] using hx
  rcases this with rfl | rfl | rfl | rfl | rfl | rfl | rfl | rfl | rfl | rfl | rfl | rfl | rfl
  · exact .inl ⟨_, hr, by decide⟩
  · exact .inl ⟨"list", rfl, by decide⟩
  · exact .inl ⟨"NoneType", rfl, by decide⟩
  · exact .inl ⟨"dict", rfl, by decide⟩
  · exact .inl ⟨_, hd, by decide⟩
  · exact .inl ⟨"str", rfl, by decide⟩
  · exact .inl ⟨"str", rfl, by decide⟩
  · exact .inl ⟨"bool", rfl, by decide⟩
  · exact .inl ⟨"int", rfl, by decide⟩
  · exact .inr ⟨[], rfl, .inl rfl⟩
  · exact .inr ⟨_, rfl, .inr (by rw [List.length_replicate]; decide)⟩
  · exact .inr ⟨_, rfl, .inr (by rw [List.length_replicate]; decide)⟩
  · exact .inl ⟨"list", rfl, by decide⟩
theorem u_disp {ps : List (WE × WE)} {ρ : EnvD} {h : AH} {Q : KD} {X : KX} : wDisp ps ρ h Q X = ∀ p, h p = none → wPairs ps ρ (up h p (.dK [])) (fun ps h2 => h2 p = some (.dK []) ∧ ∃ kvs : List (Key × D), ps = kvs.map (fun kv => (kD kv.1, kv.2)) ∧ kvs.length ≤ 15 ∧ Q (.ref p) (up h2 p (.dK (mergeD kvs)))) X := rfl
theorem p_law (z : Ad) : ∀ ds h Q X, S_law z ds h Q X → w_law z (endsD Q X) (startD 10 ds) h := by
  rintro ds h Q X ⟨js, rfl, t, q⟩
  show w_law z (endsD Q X) [some (.lk (js.map D.int)), none, none, none, none, none, none, none, none, none] h
  have q : ∀ h', fin Q (.bl true) h' := fun h' => fin_of (q h')
  unfold w_law
  ((try dsimp only); rw [u_seq]; (try simp only [u_asg, u_gN, u_ret, u_retN, u_skip, u_expr, u_ifs, u_c, u_op, u_neg, u_test, u_and, u_or, u_not, u_if, u_nil, u_cons, u_tup, u_lst, u_callP, u_call, u_b, u_chain, u_andV, u_addI, u_subI, u_mulI, u_divI, u_modI, u_powI, u_cmpI, u_eqI, u_eqS, u_eqB, u_abs, u_intI, u_intB, u_newT, u_newF, u_isN, u_notN, wVar, List.set_cons_zero, List.set_cons_succ, List.getElem?_cons_zero, List.getElem?_cons_succ, List.length_cons, List.length_nil, u_lc, u_for, u_r1, u_r2, u_r3, u_num, u_notV, u_yes, u_w0, u_w1, u_dput, u_get2, u_dget, u_prop, u_fld, u_setF, u_make, u_makeS, u_met, u_calO, u_orT, u_tupIt, u_dc, u_maxDd, u_dnew, u_tupi, ix_p0, ix_p1, wSl, woNone, woSome]))
  refine ⟨trivial, js, rfl, fun p o hp r0 => ?_⟩
  have I : PenAt 0 (up h p o) p := ⟨o, up_same, r0⟩
  have t1 : Tb z (up h p o) := tb_up hp t
  have np : z.t0 ≠ p := by
    rintro rfl
    have t : h z.t0 = _ := t
    rw [hp] at t; cases t
  generalize up h p o = h1 at I t1 ⊢
  clear t hp r0
  replace I := Inv0.start I
  have tb : ∀ {m h'}, Inv0 h1 p m h' → Tb z h' := fun {m h'} I => I.old _ _ t1 np
  refine seq_go (fun ρ h' => ∃ a2 a3 a4 a5 a6 a7 a8 a9 m, ρ = [some (.lk (js.map D.int)), some (.ref p), a2, a3, a4, a5, a6, a7, a8, a9] ∧ Inv0 h1 p m h') (fun K k => ?_) ?_
  · simp only [u_asg, u_gN, u_ret, u_retN, u_skip, u_expr, u_ifs, u_c, u_op, u_neg, u_test, u_and, u_or, u_not, u_if, u_nil, u_cons, u_tup, u_lst, u_callP, u_call, u_b, u_chain, u_andV, u_addI, u_subI, u_mulI, u_divI, u_modI, u_powI, u_cmpI, u_eqI, u_eqS, u_eqB, u_abs, u_intI, u_intB, u_newT, u_newF, u_isN, u_notN, wVar, List.set_cons_zero, List.set_cons_succ, List.getElem?_cons_zero, List.getElem?_cons_succ, List.length_cons, List.length_nil, u_lc, u_for, u_r1, u_r2, u_r3, u_num, u_notV, u_yes, u_w0, u_w1, u_dput, u_get2, u_dget, u_prop, u_fld, u_setF, u_make, u_makeS, u_met, u_calO, u_orT, u_tupIt, u_dc, u_maxDd, u_dnew, u_tupi, ix_p0, ix_p1, wSl, woNone, woSome]
    refine ⟨by decide, by decide, ?_⟩
    refine loop_go (fun i ρ h' => ∃ a2 a3 a4 a5 a6 a7 a8 a9, ρ = [some (.lk (js.map D.int)), some (.ref p), a2, a3, a4, a5, a6, a7, a8, a9] ∧ Inv0 h1 p (40 * i) h') ⟨_, _, _, _, _, _, _, _, rfl, by simpa using I⟩ (fun _ _ _ _ => trivial) ?_ ?_
    · rintro i x _ g K9 hi ⟨a2, a3, a4, a5, a6, a7, a8, a9, rfl, I⟩ k9
      obtain ⟨rfl, li⟩ := intsD_get hi
      have li : i < 6 := li
      rw [u_gN]
      dsimp only [List.set_cons_zero, List.set_cons_succ]
      ((try dsimp only); rw [u_seq]; (try simp only [u_asg, u_gN, u_ret, u_retN, u_skip, u_expr, u_ifs, u_c, u_op, u_neg, u_test, u_and, u_or, u_not, u_if, u_nil, u_cons, u_tup, u_lst, u_callP, u_call, u_b, u_chain, u_andV, u_addI, u_subI, u_mulI, u_divI, u_modI, u_powI, u_cmpI, u_eqI, u_eqS, u_eqB, u_abs, u_intI, u_intB, u_newT, u_newF, u_isN, u_notN, wVar, List.set_cons_zero, List.set_cons_succ, List.getElem?_cons_zero, List.getElem?_cons_succ, List.length_cons, List.length_nil, u_lc, u_for, u_r1, u_r2, u_r3, u_num, u_notV, u_yes, u_w0, u_w1, u_dput, u_get2, u_dget, u_prop, u_fld, u_setF, u_make, u_makeS, u_met, u_calO, u_orT, u_tupIt, u_dc, u_maxDd, u_dnew, u_tupi, ix_p0, ix_p1, wSl, woNone, woSome]))
      refine ⟨trivial, draw_go I (by omega) (div_ok (by decide) (by decide)) fun v o a b I keep => ?_⟩
      generalize up g p o = g1 at I
      try simp only [u_asg, u_gN, u_ret, u_retN, u_skip, u_expr, u_ifs, u_c, u_op, u_neg, u_test, u_and, u_or, u_not, u_if, u_nil, u_cons, u_tup, u_lst, u_callP, u_call, u_b, u_chain, u_andV, u_addI, u_subI, u_mulI, u_divI, u_modI, u_powI, u_cmpI, u_eqI, u_eqS, u_eqB, u_abs, u_intI, u_intB, u_newT, u_newF, u_isN, u_notN, wVar, List.set_cons_zero, List.set_cons_succ, List.getElem?_cons_zero, List.getElem?_cons_succ, List.length_cons, List.length_nil, u_lc, u_for, u_r1, u_r2, u_r3, u_num, u_notV, u_yes, u_w0, u_w1, u_dput, u_get2, u_dget, u_prop, u_fld, u_setF, u_make, u_makeS, u_met, u_calO, u_orT, u_tupIt, u_dc, u_maxDd, u_dnew, u_tupi, ix_p0, ix_p1, wSl, woNone, woSome]
      refine ⟨by omega, by omega, fun r hr => ?_⟩
      obtain ⟨r0, rp⟩ := I.fresh hr
      refine comp_go (fun j h' => ∃ zs : List Int, Inv0 h1 p (40 * i + 1 + 2 * j) h' ∧ h' r = some (.lst (zs.map D.int)) ∧ zs.length = j ∧ ∀ y ∈ zs, 0 ≤ y ∧ y ≤ 1000000000000) ⟨[], by simpa using I.new hr, up_same, rfl, fun y hy => by cases hy⟩ (fun _ _ _ => trivial) ?_ ?_
      · rintro j x g2 K2 hj ⟨zs, I, h2, l, hz⟩ k2
        have lj := (List.getElem?_eq_some_iff.mp hj).1
        rw [intsD_len] at lj
        try simp only [u_asg, u_gN, u_ret, u_retN, u_skip, u_expr, u_ifs, u_c, u_op, u_neg, u_test, u_and, u_or, u_not, u_if, u_nil, u_cons, u_tup, u_lst, u_callP, u_call, u_b, u_chain, u_andV, u_addI, u_subI, u_mulI, u_divI, u_modI, u_powI, u_cmpI, u_eqI, u_eqS, u_eqB, u_abs, u_intI, u_intB, u_newT, u_newF, u_isN, u_notN, wVar, List.set_cons_zero, List.set_cons_succ, List.getElem?_cons_zero, List.getElem?_cons_succ, List.length_cons, List.length_nil, u_lc, u_for, u_r1, u_r2, u_r3, u_num, u_notV, u_yes, u_w0, u_w1, u_dput, u_get2, u_dget, u_prop, u_fld, u_setF, u_make, u_makeS, u_met, u_calO, u_orT, u_tupIt, u_dc, u_maxDd, u_dnew, u_tupi, ix_p0, ix_p1, wSl, woNone, woSome, if_true]
        refine ⟨pow_ok12, trivial, draw_go I (by omega) (div_ok (by decide) (by decide)) fun u o2 a2' b2' I keep => ?_⟩
        generalize up g2 p o2 = g3 at I keep ⊢
        refine ⟨by decide, trivial, draw_go I (by omega) (div_ok (by decide) (by decide)) fun w o3 a3' b3' I keep3 => ?_⟩
        generalize up g3 p o3 = g4 at I keep3 ⊢
        have hx : ∃ y : Int, atI [D.int 0, .int 1, .int (10 ^ Int.toNat 12), .int u] w = some (.int y) ∧ 0 ≤ y ∧ y ≤ 1000000000000 := by
          have : w = 0 ∨ w = 1 ∨ w = 2 ∨ w = 3 := by omega
          rcases this with rfl | rfl | rfl | rfl
          · exact ⟨0, rfl, by decide, by decide⟩
          · exact ⟨1, rfl, by decide, by decide⟩
          · exact ⟨_, rfl, by decide, by decide⟩
          · exact ⟨u, rfl, a2', by omega⟩
        obtain ⟨y, hy, y0, y1⟩ := hx
        rw [u_ixLd hy]
        refine ⟨zs.map D.int, by rw [keep3 _ rp, keep _ rp]; exact h2, by rw [List.length_map, sizeLine_eq]; omega, k2 _ ⟨zs ++ [y], (I.mono (by omega)).put r0, by rw [up_same, List.map_append]; rfl, by simp [l], fun e he => ?_⟩⟩
        rcases List.mem_append.mp he with he | he
        · exact hz e he
        · obtain rfl : e = y := by simpa using he
          exact ⟨y0, y1⟩
      · rintro g2 ⟨zs, I, h2, l, hz⟩
        rw [intsD_len] at I l
        refine ⟨_, h2, ?_⟩
        rw [if_pos rfl]
        have l1 : 1 ≤ zs.length := by omega
        have l2 : zs.length ≤ 12 := by omega
        have ok : TOk zs := ⟨l1, by omega, hz⟩
        replace I : Inv0 h1 p (40 * i + 25) g2 := I.mono (by omega)
        clear keep
        ((try dsimp only); rw [u_seq]; (try simp only [u_asg, u_gN, u_ret, u_retN, u_skip, u_expr, u_ifs, u_c, u_op, u_neg, u_test, u_and, u_or, u_not, u_if, u_nil, u_cons, u_tup, u_lst, u_callP, u_call, u_b, u_chain, u_andV, u_addI, u_subI, u_mulI, u_divI, u_modI, u_powI, u_cmpI, u_eqI, u_eqS, u_eqB, u_abs, u_intI, u_intB, u_newT, u_newF, u_isN, u_notN, wVar, List.set_cons_zero, List.set_cons_succ, List.getElem?_cons_zero, List.getElem?_cons_succ, List.length_cons, List.length_nil, u_lc, u_for, u_r1, u_r2, u_r3, u_num, u_notV, u_yes, u_w0, u_w1, u_dput, u_get2, u_dget, u_prop, u_fld, u_setF, u_make, u_makeS, u_met, u_calO, u_orT, u_tupIt, u_dc, u_maxDd, u_dnew, u_tupi, ix_p0, ix_p1, wSl, woNone, woSome]))
        refine ⟨_, _, rfl, (by simp only [seqOf, lstOf, h2]; rfl), ?_⟩
        refine ⟨trivial, _, rfl, tb I, .inl ⟨zs, rfl, ok, ?_⟩⟩
        refine rp_go rp_tell (by decide) (by decide) rfl ?_
        refine ⟨by decide, by decide, go_six (rp_go rp_tell (by decide) (by decide) rfl (text_same ?_))⟩
        simp only [Bool.not_true, Bool.false_eq_true, if_false]
        try simp only [u_asg, u_gN, u_ret, u_retN, u_skip, u_expr, u_ifs, u_c, u_op, u_neg, u_test, u_and, u_or, u_not, u_if, u_nil, u_cons, u_tup, u_lst, u_callP, u_call, u_b, u_chain, u_andV, u_addI, u_subI, u_mulI, u_divI, u_modI, u_powI, u_cmpI, u_eqI, u_eqS, u_eqB, u_abs, u_intI, u_intB, u_newT, u_newF, u_isN, u_notN, wVar, List.set_cons_zero, List.set_cons_succ, List.getElem?_cons_zero, List.getElem?_cons_succ, List.length_cons, List.length_nil, u_lc, u_for, u_r1, u_r2, u_r3, u_num, u_notV, u_yes, u_w0, u_w1, u_dput, u_get2, u_dget, u_prop, u_fld, u_setF, u_make, u_makeS, u_met, u_calO, u_orT, u_tupIt, u_dc, u_maxDd, u_dnew, u_tupi, ix_p0, ix_p1, wSl, woNone, woSome]
        ((try dsimp only); rw [u_seq]; (try simp only [u_asg, u_gN, u_ret, u_retN, u_skip, u_expr, u_ifs, u_c, u_op, u_neg, u_test, u_and, u_or, u_not, u_if, u_nil, u_cons, u_tup, u_lst, u_callP, u_call, u_b, u_chain, u_andV, u_addI, u_subI, u_mulI, u_divI, u_modI, u_powI, u_cmpI, u_eqI, u_eqS, u_eqB, u_abs, u_intI, u_intB, u_newT, u_newF, u_isN, u_notN, wVar, List.set_cons_zero, List.set_cons_succ, List.getElem?_cons_zero, List.getElem?_cons_succ, List.length_cons, List.length_nil, u_lc, u_for, u_r1, u_r2, u_r3, u_num, u_notV, u_yes, u_w0, u_w1, u_dput, u_get2, u_dget, u_prop, u_fld, u_setF, u_make, u_makeS, u_met, u_calO, u_orT, u_tupIt, u_dc, u_maxDd, u_dnew, u_tupi, ix_p0, ix_p1, wSl, woNone, woSome]))
        rw [u_lenR h2, List.length_map]
        have good : ∀ e ∈ zs.map D.int, bad e = false := fun e he => by
          obtain ⟨y, hy, rfl⟩ := List.mem_map.mp he
          have := hz y hy
          show (!(decide (0 ≤ y) && decide (y ≤ 1000000000000))) = false
          rw [decide_eq_true this.1, decide_eq_true this.2]; rfl
        have idx0 : (zs.map D.int).findIdx bad = zs.length := by
          rw [List.findIdx_eq_length.mpr good, List.length_map]
        refine seq_go (fun ρ h' => ∃ a5 a6 a7 ys, ρ = [some (.lk (js.map D.int)), some (.ref p), some (.int (0 + (i : Nat))), some (.ref r), some (.int ((List.findIdx bad ys : Nat) : Int)), a5, a6, a7, a8, a9] ∧ Inv0 h1 p (40 * i + 34) h' ∧ h' r = some (.lst ys) ∧ ys.length = zs.length ∧ (∀ e ∈ ys, Typed e) ∧ List.findIdx bad ys < ys.length) (fun K3 k3 => ?_) ?_
        · simp only [u_asg, u_gN, u_ret, u_retN, u_skip, u_expr, u_ifs, u_c, u_op, u_neg, u_test, u_and, u_or, u_not, u_if, u_nil, u_cons, u_tup, u_lst, u_callP, u_call, u_b, u_chain, u_andV, u_addI, u_subI, u_mulI, u_divI, u_modI, u_powI, u_cmpI, u_eqI, u_eqS, u_eqB, u_abs, u_intI, u_intB, u_newT, u_newF, u_isN, u_notN, wVar, List.set_cons_zero, List.set_cons_succ, List.getElem?_cons_zero, List.getElem?_cons_succ, List.length_cons, List.length_nil, u_lc, u_for, u_r1, u_r2, u_r3, u_num, u_notV, u_yes, u_w0, u_w1, u_dput, u_get2, u_dget, u_prop, u_fld, u_setF, u_make, u_makeS, u_met, u_calO, u_orT, u_tupIt, u_dc, u_maxDd, u_dnew, u_tupi, ix_p0, ix_p1, wSl, woNone, woSome]
          refine ⟨trivial, draw_go I (by omega) (div_ok (by decide) (by decide)) fun u o2 a2' b2' I keep => ?_⟩
          generalize up g2 p o2 = g3 at I keep ⊢
          refine ⟨by omega, by omega, ?_⟩
          refine loop_go (fun j ρ h' => ∃ a5 a6 a7 ys, ρ = [some (.lk (js.map D.int)), some (.ref p), some (.int (0 + (i : Nat))), some (.ref r), some (.int ((List.findIdx bad ys : Nat) : Int)), a5, a6, a7, a8, a9] ∧ Inv0 h1 p (40 * i + 26 + 2 * j) h' ∧ h' r = some (.lst ys) ∧ ys.length = zs.length ∧ (∀ e ∈ ys, Typed e) ∧ (0 < j → List.findIdx bad ys < ys.length)) ⟨_, _, _, zs.map D.int, by rw [idx0], I.mono (by omega), by rw [keep _ rp]; exact h2, by simp, fun e he => ?_, fun h => absurd h (by decide)⟩ (fun _ _ _ _ => trivial) ?_ ?_
          · obtain ⟨y, hy, rfl⟩ := List.mem_map.mp he
            exact ⟨"int", fun _ => rfl⟩
          · rintro j x _ g4 K4 hj ⟨a5, a6, a7, ys, rfl, I, h3, ly, hty, hb⟩ k4
            obtain ⟨rfl, lj⟩ := intsD_get hj
            have lj : j < 2 := by omega
            rw [u_gN]
            dsimp only [List.set_cons_zero, List.set_cons_succ]
            ((try dsimp only); rw [u_seq]; (try simp only [u_asg, u_gN, u_ret, u_retN, u_skip, u_expr, u_ifs, u_c, u_op, u_neg, u_test, u_and, u_or, u_not, u_if, u_nil, u_cons, u_tup, u_lst, u_callP, u_call, u_b, u_chain, u_andV, u_addI, u_subI, u_mulI, u_divI, u_modI, u_powI, u_cmpI, u_eqI, u_eqS, u_eqB, u_abs, u_intI, u_intB, u_newT, u_newF, u_isN, u_notN, wVar, List.set_cons_zero, List.set_cons_succ, List.getElem?_cons_zero, List.getElem?_cons_succ, List.length_cons, List.length_nil, u_lc, u_for, u_r1, u_r2, u_r3, u_num, u_notV, u_yes, u_w0, u_w1, u_dput, u_get2, u_dget, u_prop, u_fld, u_setF, u_make, u_makeS, u_met, u_calO, u_orT, u_tupIt, u_dc, u_maxDd, u_dnew, u_tupi, ix_p0, ix_p1, wSl, woNone, woSome]))
            rw [u_lenR h3]
            refine ⟨trivial, draw_go I (by omega) (div_ok (by omega) (by omega)) fun c o3 c0 c1 I keep4 => ?_⟩
            generalize up g4 p o3 = g5 at I keep4 ⊢
            ((try dsimp only); rw [u_seq]; (try simp only [u_asg, u_gN, u_ret, u_retN, u_skip, u_expr, u_ifs, u_c, u_op, u_neg, u_test, u_and, u_or, u_not, u_if, u_nil, u_cons, u_tup, u_lst, u_callP, u_call, u_b, u_chain, u_andV, u_addI, u_subI, u_mulI, u_divI, u_modI, u_powI, u_cmpI, u_eqI, u_eqS, u_eqB, u_abs, u_intI, u_intB, u_newT, u_newF, u_isN, u_notN, wVar, List.set_cons_zero, List.set_cons_succ, List.getElem?_cons_zero, List.getElem?_cons_succ, List.length_cons, List.length_nil, u_lc, u_for, u_r1, u_r2, u_r3, u_num, u_notV, u_yes, u_w0, u_w1, u_dput, u_get2, u_dget, u_prop, u_fld, u_setF, u_make, u_makeS, u_met, u_calO, u_orT, u_tupIt, u_dc, u_maxDd, u_dnew, u_tupi, ix_p0, ix_p1, wSl, woNone, woSome]))
            refine ⟨by decide, by decide, ?_⟩
            show PowOk 10 12 ∧ _
            refine ⟨pow_ok12, pow_ok59, pow_ok59, by decide, ?_⟩
            ((try dsimp only); rw [u_seq]; (try simp only [u_asg, u_gN, u_ret, u_retN, u_skip, u_expr, u_ifs, u_c, u_op, u_neg, u_test, u_and, u_or, u_not, u_if, u_nil, u_cons, u_tup, u_lst, u_callP, u_call, u_b, u_chain, u_andV, u_addI, u_subI, u_mulI, u_divI, u_modI, u_powI, u_cmpI, u_eqI, u_eqS, u_eqB, u_abs, u_intI, u_intB, u_newT, u_newF, u_isN, u_notN, wVar, List.set_cons_zero, List.set_cons_succ, List.getElem?_cons_zero, List.getElem?_cons_succ, List.length_cons, List.length_nil, u_lc, u_for, u_r1, u_r2, u_r3, u_num, u_notV, u_yes, u_w0, u_w1, u_dput, u_get2, u_dget, u_prop, u_fld, u_setF, u_make, u_makeS, u_met, u_calO, u_orT, u_tupIt, u_dc, u_maxDd, u_dnew, u_tupi, ix_p0, ix_p1, wSl, woNone, woSome]))
            refine ⟨trivial, draw_go I (by omega) (div_ok (by decide) (by decide)) fun w o4 w0 w1 I keep5 => ?_⟩
            generalize up g5 p o4 = g6 at I keep5 ⊢
            obtain ⟨e, he, hbe, hte⟩ := odd_at w0 w1
            unfold oddL at he
            rw [u_ixLd he]
            have h6 : g6 r = some (.lst ys) := by rw [keep5 _ rp, keep4 _ rp]; exact h3
            obtain ⟨cn, rfl⟩ := Int.eq_ofNat_of_zero_le c0
            have cl : cn < ys.length := by omega
            refine ⟨r, ys, cn, cn, rfl, rfl, h6, ix_nat c0 c1, ?_⟩
            have f6 := findIdx_set hbe ys cn cl
            try simp only [u_asg, u_gN, u_ret, u_retN, u_skip, u_expr, u_ifs, u_c, u_op, u_neg, u_test, u_and, u_or, u_not, u_if, u_nil, u_cons, u_tup, u_lst, u_callP, u_call, u_b, u_chain, u_andV, u_addI, u_subI, u_mulI, u_divI, u_modI, u_powI, u_cmpI, u_eqI, u_eqS, u_eqB, u_abs, u_intI, u_intB, u_newT, u_newF, u_isN, u_notN, wVar, List.set_cons_zero, List.set_cons_succ, List.getElem?_cons_zero, List.getElem?_cons_succ, List.length_cons, List.length_nil, u_lc, u_for, u_r1, u_r2, u_r3, u_num, u_notV, u_yes, u_w0, u_w1, u_dput, u_get2, u_dget, u_prop, u_fld, u_setF, u_make, u_makeS, u_met, u_calO, u_orT, u_tupIt, u_dc, u_maxDd, u_dnew, u_tupi, ix_p0, ix_p1, wSl, woNone, woSome]
            refine ⟨by decide, _, [((List.findIdx bad ys : Nat) : Int), (cn : Int)], rfl, rfl, by simp, fun m hm hle => ?_⟩
            have em : m = ((List.findIdx bad (ys.set cn e) : Nat) : Int) := by
              rw [f6]
              have h1' := hle _ (List.mem_cons_self ..)
              have h2' := hle _ (List.mem_cons_of_mem _ (List.mem_cons_self ..))
              have hm' : m = ((List.findIdx bad ys : Nat) : Int) ∨ m = (cn : Int) := by simpa using hm
              omega
            subst em
            refine k4 _ _ ⟨_, _, _, ys.set cn e, rfl, (I.mono (by omega)).put r0, up_same, by simp [ly], fun y hy => ?_, fun _ => ?_⟩
            · rcases List.mem_or_eq_of_mem_set hy with hy | rfl
              · exact hty y hy
              · exact hte
            · rw [f6, List.length_set]; omega
          · rintro _ g4 ⟨a5, a6, a7, ys, rfl, I, h3, ly, hty, hb⟩
            rw [intsD_len] at I hb
            exact k3 _ _ ⟨_, _, _, ys, rfl, I.mono (by omega), h3, ly, hty, hb (by omega)⟩
        · rintro _ g3 ⟨a5, a6, a7, ys, rfl, I, h3, ly, hty, hb⟩
          ((try dsimp only); rw [u_seq]; (try simp only [u_asg, u_gN, u_ret, u_retN, u_skip, u_expr, u_ifs, u_c, u_op, u_neg, u_test, u_and, u_or, u_not, u_if, u_nil, u_cons, u_tup, u_lst, u_callP, u_call, u_b, u_chain, u_andV, u_addI, u_subI, u_mulI, u_divI, u_modI, u_powI, u_cmpI, u_eqI, u_eqS, u_eqB, u_abs, u_intI, u_intB, u_newT, u_newF, u_isN, u_notN, wVar, List.set_cons_zero, List.set_cons_succ, List.getElem?_cons_zero, List.getElem?_cons_succ, List.length_cons, List.length_nil, u_lc, u_for, u_r1, u_r2, u_r3, u_num, u_notV, u_yes, u_w0, u_w1, u_dput, u_get2, u_dget, u_prop, u_fld, u_setF, u_make, u_makeS, u_met, u_calO, u_orT, u_tupIt, u_dc, u_maxDd, u_dnew, u_tupi, ix_p0, ix_p1, wSl, woNone, woSome]))
          refine ⟨_, _, rfl, (by simp only [seqOf, lstOf, h3]; rfl), ?_⟩
          have wr : WrongT g3 (.tup ys) ((List.findIdx bad ys : Nat) : Int) := .inr ⟨ys, _, rfl, by omega, by omega, fun e he => by obtain ⟨t, ht⟩ := hty e he; rw [ht g3]; rfl, idx_some hb, rfl⟩
          have sm : (((List.findIdx bad ys : Nat) : Int)).natAbs < 2 ^ 20 := by omega
          refine ⟨trivial, _, rfl, tb I, .inr ⟨_, wr, ?_⟩⟩
          refine rp_go (rp_wrong sm) (by decide) (by decide) rfl ?_
          refine ⟨by decide, by decide, go_six (rp_go (rp_wrong sm) (by decide) (by decide) rfl (text_same ?_))⟩
          simp only [Bool.not_true, Bool.false_eq_true, if_false]
          try simp only [u_asg, u_gN, u_ret, u_retN, u_skip, u_expr, u_ifs, u_c, u_op, u_neg, u_test, u_and, u_or, u_not, u_if, u_nil, u_cons, u_tup, u_lst, u_callP, u_call, u_b, u_chain, u_andV, u_addI, u_subI, u_mulI, u_divI, u_modI, u_powI, u_cmpI, u_eqI, u_eqS, u_eqB, u_abs, u_intI, u_intB, u_newT, u_newF, u_isN, u_notN, wVar, List.set_cons_zero, List.set_cons_succ, List.getElem?_cons_zero, List.getElem?_cons_succ, List.length_cons, List.length_nil, u_lc, u_for, u_r1, u_r2, u_r3, u_num, u_notV, u_yes, u_w0, u_w1, u_dput, u_get2, u_dget, u_prop, u_fld, u_setF, u_make, u_makeS, u_met, u_calO, u_orT, u_tupIt, u_dc, u_maxDd, u_dnew, u_tupi, ix_p0, ix_p1, wSl, woNone, woSome]
          ((try dsimp only); rw [u_seq]; (try simp only [u_asg, u_gN, u_ret, u_retN, u_skip, u_expr, u_ifs, u_c, u_op, u_neg, u_test, u_and, u_or, u_not, u_if, u_nil, u_cons, u_tup, u_lst, u_callP, u_call, u_b, u_chain, u_andV, u_addI, u_subI, u_mulI, u_divI, u_modI, u_powI, u_cmpI, u_eqI, u_eqS, u_eqB, u_abs, u_intI, u_intB, u_newT, u_newF, u_isN, u_notN, wVar, List.set_cons_zero, List.set_cons_succ, List.getElem?_cons_zero, List.getElem?_cons_succ, List.length_cons, List.length_nil, u_lc, u_for, u_r1, u_r2, u_r3, u_num, u_notV, u_yes, u_w0, u_w1, u_dput, u_get2, u_dget, u_prop, u_fld, u_setF, u_make, u_makeS, u_met, u_calO, u_orT, u_tupIt, u_dc, u_maxDd, u_dnew, u_tupi, ix_p0, ix_p1, wSl, woNone, woSome]))
          refine ⟨3, rfl, ⟨by decide, by decide⟩, ?_⟩
          rw [newL_f]
          unfold wDnewF; dsimp only
          rw [u_disp]
          intro d hd
          simp only [wPairs, u_asg, u_gN, u_ret, u_retN, u_skip, u_expr, u_ifs, u_c, u_op, u_neg, u_test, u_and, u_or, u_not, u_if, u_nil, u_cons, u_tup, u_lst, u_callP, u_call, u_b, u_chain, u_andV, u_addI, u_subI, u_mulI, u_divI, u_modI, u_powI, u_cmpI, u_eqI, u_eqS, u_eqB, u_abs, u_intI, u_intB, u_newT, u_newF, u_isN, u_notN, wVar, List.set_cons_zero, List.set_cons_succ, List.getElem?_cons_zero, List.getElem?_cons_succ, List.length_cons, List.length_nil, u_lc, u_for, u_r1, u_r2, u_r3, u_num, u_notV, u_yes, u_w0, u_w1, u_dput, u_get2, u_dget, u_prop, u_fld, u_setF, u_make, u_makeS, u_met, u_calO, u_orT, u_tupIt, u_dc, u_maxDd, u_dnew, u_tupi, ix_p0, ix_p1, wSl, woNone, woSome]
          refine ⟨up_same, [(.inl 0, .int 1)], rfl, by decide, by decide, by decide, go_mulT (by decide) (by decide) ?_⟩
          refine ⟨by decide, go_mulT (by decide) (by decide) ?_⟩
          refine ⟨by decide, by decide, trivial, ?_⟩
          rw [up_up]
          obtain ⟨d0, dp⟩ := I.fresh hd
          have dr : d ≠ r := by rintro rfl; rw [h3] at hd; cases hd
          have hr4 : up g3 d (.dK (mergeD [(.inl 0, .int 1)])) r = some (.lst ys) := by rw [up_ne (Ne.symm dr)]; exact h3
          have hd4 : up g3 d (.dK (mergeD [(.inl 0, .int 1)])) d = some (.dK (mergeD [(.inl 0, .int 1)])) := up_same
          replace I := I.new (o := .dK (mergeD [(.inl 0, .int 1)])) hd
          generalize up g3 d (.dK (mergeD [(.inl 0, .int 1)])) = g4 at I hr4 hd4 ⊢
          refine draw_go I (by omega) (div_ok (by decide) (by decide)) fun w o2 w0 w1 I keep => ?_
          generalize up g4 p o2 = g5 at I keep ⊢
          replace hr4 : g5 r = some (.lst ys) := by rw [keep _ rp]; exact hr4
          replace hd4 : g5 d = some (.dK (mergeD [(.inl 0, .int 1)])) := by rw [keep _ dp]; exact hd4
          obtain ⟨x, hx, e⟩ := some_at (r := r) (d := d) (g := g5) (by simp [tyD, cur, hr4]) (by simp [tyD, cur, hd4]) w0 w1
          unfold someL at hx
          rw [u_ixLd hx]
          refine ⟨trivial, _, rfl, tb I, .inr ⟨_, .inl ⟨rfl, e⟩, ?_⟩⟩
          refine rp_go (rp_wrong (by decide)) (by decide) (by decide) rfl ?_
          refine ⟨by decide, by decide, go_six (rp_go (rp_wrong (by decide)) (by decide) (by decide) rfl (text_same ?_))⟩
          simp only [Bool.not_true, Bool.false_eq_true, if_false]
          exact k9 _ _ ⟨_, _, _, _, _, _, _, _, rfl, I.mono (by omega)⟩
    · rintro _ _ ⟨a2, a3, a4, a5, a6, a7, a8, a9, rfl, I⟩
      exact k _ _ ⟨_, _, _, _, _, _, _, _, _, rfl, I⟩
  · rintro _ g ⟨a2, a3, a4, a5, a6, a7, a8, a9, m, rfl, I⟩
    ((try dsimp only); rw [u_seq]; (try simp only [u_asg, u_gN, u_ret, u_retN, u_skip, u_expr, u_ifs, u_c, u_op, u_neg, u_test, u_and, u_or, u_not, u_if, u_nil, u_cons, u_tup, u_lst, u_callP, u_call, u_b, u_chain, u_andV, u_addI, u_subI, u_mulI, u_divI, u_modI, u_powI, u_cmpI, u_eqI, u_eqS, u_eqB, u_abs, u_intI, u_intB, u_newT, u_newF, u_isN, u_notN, wVar, List.set_cons_zero, List.set_cons_succ, List.getElem?_cons_zero, List.getElem?_cons_succ, List.length_cons, List.length_nil, u_lc, u_for, u_r1, u_r2, u_r3, u_num, u_notV, u_yes, u_w0, u_w1, u_dput, u_get2, u_dget, u_prop, u_fld, u_setF, u_make, u_makeS, u_met, u_calO, u_orT, u_tupIt, u_dc, u_maxDd, u_dnew, u_tupi, ix_p0, ix_p1, wSl, woNone, woSome]))
    refine ⟨pow_ok12, by decide, go_mulT (by decide) (by decide) ?_⟩
    rw [show List.replicate (Int.toNat 400) (D.int (10 ^ Int.toNat 12)) = gr.map D.int from by unfold gr; rw [List.map_replicate]; rfl]
    refine ⟨trivial, _, rfl, tb I, .inl ⟨gr, rfl, gr_ok, ?_⟩⟩
    refine ⟨by decide, by decide, go_six (same_lst tell_fl (by decide) ?_)⟩
    simp only [if_true]
    refine ⟨trivial, _, rfl, .inl ⟨gr, rfl, gr_ok, ?_⟩⟩
    rw [show firstD gr = .non from by unfold firstD; rw [gr_brk]]
    show True ∧ _
    refine ⟨trivial, _, rfl, .inl ⟨gr, rfl, gr_ok, fun rs hr => ?_⟩⟩
    obtain rfl : rs = zs4 := rests_one hr gr_rests
    refine ⟨by decide, go_mulT (by decide) (by decide) ?_⟩
    rw [show restsD gr zs4 = .tup (List.replicate 400 (D.int 0)) from by unfold restsD; rw [if_pos gr_brk]; show D.tup (zs4.map D.int) = _; unfold zs4; rw [List.map_replicate]]
    refine same_tup (fl_tup (k := 0) fun x hx => ?_) (by decide) (q _)
    obtain rfl := (List.mem_replicate.mp hx).2
    exact fl_int _
end K37
namespace K37
open PySem PySem.Spec L2 C8 DL PK PT PyProof.Rows
/-! ### the text by places (printed by gen4.py) -/
def top (i : Nat) : Stmt := PySem.Challenge.pw_forkecho_k37_what_is_no_table.main.body.getD i (.Pass ⟨0, 0, 0, 0⟩)
abbrev s_is_integer : Stmt := top 21
abbrev s_is_between : Stmt := top 22
abbrev s_needs : Stmt := top 25
abbrev s_need : Stmt := top 26
abbrev s_is_row : Stmt := top 29
abbrev s_Ledger___init__ : Stmt := inClass (top 30) 0
abbrev s_Ledger_rows : Stmt := inClass (top 30) 1
abbrev s_Ledger_greatest : Stmt := inClass (top 30) 2
abbrev s_Ledger___getitem__ : Stmt := inClass (top 30) 3
abbrev s_need_table : Stmt := top 39
abbrev s_is_broken : Stmt := top 40
abbrev s_broken_capacities : Stmt := top 41
abbrev s_first_broken : Stmt := top 42
abbrev s_rests_of : Stmt := top 43
abbrev s_rests : Stmt := top 44
abbrev s_told_ledger : Stmt := top 45
abbrev s_rising_capacities : Stmt := top 46
abbrev s_far_offsets : Stmt := top 47
abbrev s_least_written : Stmt := top 48
abbrev s_refusals : Stmt := top 49
abbrev s_judge_table : Stmt := top 50
abbrev s_is_account : Stmt := top 51
abbrev s_check_table : Stmt := top 52
abbrev s__law_pen : Stmt := top 54
abbrev s__law_draw : Stmt := top 55
abbrev s__law_heard : Stmt := top 56
abbrev s__law_all_heard : Stmt := top 57
abbrev s_law : Stmt := top 58
abbrev s_InvalidTable___init__ : Stmt := inClass (top 8) 0
theorem sc_InvalidTable___init__ : FnScope ["self", "index"] ["self", "index"] (defScope s_InvalidTable___init__) := ⟨rfl, rfl, rfl, by decide +kernel, rfl, by decide +kernel, by decide +kernel⟩
theorem sc_is_integer : FnScope PK.N_is_integer ["value"] (defScope s_is_integer) := ⟨rfl, rfl, rfl, by decide +kernel, rfl, by decide +kernel, by decide +kernel⟩
theorem sc_is_between : FnScope PK.N_is_between ["value", "least", "most"] (defScope s_is_between) := ⟨rfl, rfl, rfl, by decide +kernel, rfl, by decide +kernel, by decide +kernel⟩
theorem sc_needs : FnScope N_needs ["ledger"] (defScope s_needs) := ⟨rfl, rfl, rfl, by decide +kernel, rfl, by decide +kernel, by decide +kernel⟩
theorem sc_need : FnScope N_need ["ledger"] (defScope s_need) := ⟨rfl, rfl, rfl, by decide +kernel, rfl, by decide +kernel, by decide +kernel⟩
theorem sc_is_row : FnScope N_is_row ["value"] (defScope s_is_row) := ⟨rfl, rfl, rfl, by decide +kernel, rfl, by decide +kernel, by decide +kernel⟩
theorem sc_Ledger___init__ : FnScope N_Ledger___init__ ["self", "rows"] (defScope s_Ledger___init__) := ⟨rfl, rfl, rfl, by decide +kernel, rfl, by decide +kernel, by decide +kernel⟩
theorem sc_Ledger_rows : FnScope N_Ledger_rows ["self"] (defScope s_Ledger_rows) := ⟨rfl, rfl, rfl, by decide +kernel, rfl, by decide +kernel, by decide +kernel⟩
theorem sc_Ledger_greatest : FnScope N_Ledger_greatest ["self"] (defScope s_Ledger_greatest) := ⟨rfl, rfl, rfl, by decide +kernel, rfl, by decide +kernel, by decide +kernel⟩
theorem sc_Ledger___getitem__ : FnScope N_Ledger___getitem__ ["self", "offset"] (defScope s_Ledger___getitem__) := ⟨rfl, rfl, rfl, by decide +kernel, rfl, by decide +kernel, by decide +kernel⟩
theorem sc_need_table : FnScope N_need_table ["table"] (defScope s_need_table) := ⟨rfl, rfl, rfl, by decide +kernel, rfl, by decide +kernel, by decide +kernel⟩
theorem sc_is_broken : FnScope N_is_broken ["table", "capacity"] (defScope s_is_broken) := ⟨rfl, rfl, rfl, by decide +kernel, rfl, by decide +kernel, by decide +kernel⟩
theorem sc_broken_capacities : FnScope N_broken_capacities ["table"] (defScope s_broken_capacities) := ⟨rfl, rfl, rfl, by decide +kernel, rfl, by decide +kernel, by decide +kernel⟩
theorem sc_first_broken : FnScope N_first_broken ["table"] (defScope s_first_broken) := ⟨rfl, rfl, rfl, by decide +kernel, rfl, by decide +kernel, by decide +kernel⟩
theorem sc_rests_of : FnScope N_rests_of ["table"] (defScope s_rests_of) := ⟨rfl, rfl, rfl, by decide +kernel, rfl, by decide +kernel, by decide +kernel⟩
theorem sc_rests : FnScope N_rests ["table"] (defScope s_rests) := ⟨rfl, rfl, rfl, by decide +kernel, rfl, by decide +kernel, by decide +kernel⟩
theorem sc_told_ledger : FnScope N_told_ledger ["table"] (defScope s_told_ledger) := ⟨rfl, rfl, rfl, by decide +kernel, rfl, by decide +kernel, by decide +kernel⟩
theorem sc_rising_capacities : FnScope N_rising_capacities ["table"] (defScope s_rising_capacities) := ⟨rfl, rfl, rfl, by decide +kernel, rfl, by decide +kernel, by decide +kernel⟩
theorem sc_far_offsets : FnScope N_far_offsets ["table"] (defScope s_far_offsets) := ⟨rfl, rfl, rfl, by decide +kernel, rfl, by decide +kernel, by decide +kernel⟩
theorem sc_least_written : FnScope N_least_written ["table"] (defScope s_least_written) := ⟨rfl, rfl, rfl, by decide +kernel, rfl, by decide +kernel, by decide +kernel⟩
theorem sc_refusals : FnScope N_refusals ["table", "lossless"] (defScope s_refusals) := ⟨rfl, rfl, rfl, by decide +kernel, rfl, by decide +kernel, by decide +kernel⟩
theorem sc_judge_table : FnScope N_judge_table ["table", "lossless"] (defScope s_judge_table) := ⟨rfl, rfl, rfl, by decide +kernel, rfl, by decide +kernel, by decide +kernel⟩
theorem sc_is_account : FnScope N_is_account ["table", "written", "ledger"] (defScope s_is_account) := ⟨rfl, rfl, rfl, by decide +kernel, rfl, by decide +kernel, by decide +kernel⟩
theorem sc_check_table : FnScope N_check_table ["table", "value", "lossless"] (defScope s_check_table) := ⟨rfl, rfl, rfl, by decide +kernel, rfl, by decide +kernel, by decide +kernel⟩
theorem sc__law_pen : FnScope N__law_pen ["_law_script"] (defScope s__law_pen) := ⟨rfl, rfl, rfl, by decide +kernel, rfl, by decide +kernel, by decide +kernel⟩
theorem sc__law_draw : FnScope N__law_draw ["_law_pen_here", "_law_many"] (defScope s__law_draw) := ⟨rfl, rfl, rfl, by decide +kernel, rfl, by decide +kernel, by decide +kernel⟩
theorem sc__law_heard : FnScope N__law_heard ["_law_ask"] (defScope s__law_heard) := ⟨rfl, rfl, rfl, by decide +kernel, rfl, by decide +kernel, by decide +kernel⟩
theorem sc__law_all_heard : FnScope N__law_all_heard ["_law_thing"] (defScope s__law_all_heard) := ⟨rfl, rfl, rfl, by decide +kernel, rfl, by decide +kernel, by decide +kernel⟩
theorem sc_law : FnScope N_law ["_law_script"] (defScope s_law) := ⟨rfl, rfl, rfl, by decide +kernel, rfl, by decide +kernel, by decide +kernel⟩
/-- what the module's names hold -/
structure Txt (K : PySem.W.Frag) (mg : Str → Option Value) (z : Ad) : Prop where
  k_Ledger : Cls K z.Ledger
  n_Ledger_amounts : NoAttr K z.Ledger "amounts"
  i_Ledger : IsiC K z.Ledger
  v_Ledger : Cst K mg "Ledger" (.ref z.Ledger)
  v_AbsentError : Cst K mg "AbsentError" (.ref z.AbsentError)
  v_Contradiction : Cst K mg "Contradiction" (.ref z.Contradiction)
  v_DifferentModes : Cst K mg "DifferentModes" (.ref z.DifferentModes)
  v_InvalidAccount : Cst K mg "InvalidAccount" (.ref z.InvalidAccount)
  v_InvalidBound : Cst K mg "InvalidBound" (.ref z.InvalidBound)
  v_InvalidCapacity : Cst K mg "InvalidCapacity" (.ref z.InvalidCapacity)
  v_InvalidMode : Cst K mg "InvalidMode" (.ref z.InvalidMode)
  v_InvalidNumber : Cst K mg "InvalidNumber" (.ref z.InvalidNumber)
  v_InvalidProgram : Cst K mg "InvalidProgram" (.ref z.InvalidProgram)
  v_InvalidReading : Cst K mg "InvalidReading" (.ref z.InvalidReading)
  v_InvalidRow : Cst K mg "InvalidRow" (.ref z.InvalidRow)
  v_InvalidTable : Cst K mg "InvalidTable" (.ref z.InvalidTable)
  v_InvalidText : Cst K mg "InvalidText" (.ref z.InvalidText)
  v_Lossy : Cst K mg "Lossy" (.ref z.Lossy)
  v_SizeError : Cst K mg "SizeError" (.ref z.SizeError)
  v_UnknownCommand : Cst K mg "UnknownCommand" (.ref z.UnknownCommand)
  xg_EchoError : mg "EchoError" = some (.ref z.EchoError)
  xg_SizeError : mg "SizeError" = some (.ref z.SizeError)
  xg_AbsentError : mg "AbsentError" = some (.ref z.AbsentError)
  xerr : ∀ C ∈ errs z, PySem.W.exmAny K (.ref C) [.ref z.EchoError, .ref z.SizeError, .ref z.AbsentError] = some true
  xtab : XTabOk K (xtab z)
  xf_index : ∀ C ∈ [z.InvalidTable], XVal K C ∧ PySem.W.findIn K (.ref C) "index" = some none
  z_ValueError : mg "ValueError" = none
  z_abs : mg "abs" = none
  z_bool : mg "bool" = none
  z_enumerate : mg "enumerate" = none
  z_int : mg "int" = none
  z_isinstance : mg "isinstance" = none
  z_len : mg "len" = none
  z_list : mg "list" = none
  z_max : mg "max" = none
  z_min : mg "min" = none
  z_range : mg "range" = none
  z_repr : mg "repr" = none
  z_sorted : mg "sorted" = none
  z_str : mg "str" = none
  z_sum : mg "sum" = none
  z_tuple : mg "tuple" = none
  c_ACCOUNT : Cst K mg "ACCOUNT" (.str "account")
  c_BROKEN : Cst K mg "BROKEN" (.str "broken")
  c_FAR : Cst K mg "FAR" (.str "far")
  c_FEW : Cst K mg "FEW" (.str "few")
  c_MOST_ENTRIES : Cst K mg "MOST_ENTRIES" (.int 400)
  c_MOST_ENTRY : Cst K mg "MOST_ENTRY" (.int 1000000000000)
  c_MOST_OFFSET : Cst K mg "MOST_OFFSET" (.int 1000000)
  c_RISES : Cst K mg "RISES" (.str "rises")
/-! ### the derivations -/
section
variable {P : Program} {w : World} {K : PySem.W.Frag} {mg : Str → Option Value} {base : Heap}
theorem d_is_integer {z : Ad} (T : Txt K mg z)  {f : Addr} (cdv : Value) (A : Around) (outer : List PySem.Env) (s : Shared) (H : Hp) (E : XK) (c : Cg false (cxOf (L2.CX P w) P w K mg base PK.N_is_integer "is_integer" (defScope s_is_integer) f cdv A outer s H E) E 0) :
    ASs (cxOf (L2.CX P w) P w K mg base PK.N_is_integer "is_integer" (defScope s_is_integer) f cdv A outer s H E) E (defBody s_is_integer) (PK.w_is_integer z) :=
  (ass_one (as_ret (ae_and (ae_b dIsi_ok T.z_isinstance bb_isinstance (aa_cons (ae_var 0) (aa_cons (ae_ty T.z_int bb_int) aa_nil))) (ae_one (ae_not (ae_b dIsi_ok T.z_isinstance bb_isinstance (aa_cons (ae_var 0) (aa_cons (ae_ty T.z_bool bb_bool) aa_nil))))))))
theorem d_is_between {z : Ad} (T : Txt K mg z) (C_is_integer : Cal false P w K mg base "is_integer" 1 1 [] (fun ds _ => ds) (PK.S_is_integer z)) {f : Addr} (cdv : Value) (A : Around) (outer : List PySem.Env) (s : Shared) (H : Hp) (E : XK) (c : Cg false (cxOf (L2.CX P w) P w K mg base PK.N_is_between "is_between" (defScope s_is_between) f cdv A outer s H E) E 1) :
    ASs (cxOf (L2.CX P w) P w K mg base PK.N_is_between "is_between" (defScope s_is_between) f cdv A outer s H E) E (defBody s_is_between) (PK.w_is_between z) :=
  (ass_one (as_ret (ae_and (ae_call c C_is_integer (by decide) (by decide) (aa_cons (ae_var 0) aa_nil)) (ae_one (ae_chain2 dCmpI_ok dCmpI_ok op_le op_le (ae_var 1) (ae_var 0) (ae_var 2))))))
theorem d_needs {z : Ad} (T : Txt K mg z) (R_Ledger___getitem__ : IxC P w K mg base z.Ledger 1 (PL.S_Ledger___getitem__ z)) (R_Ledger_greatest : PrpC P w K mg base z.Ledger "greatest" 1 (PL.S_Ledger_greatest z)) {f : Addr} (cdv : Value) (A : Around) (outer : List PySem.Env) (s : Shared) (H : Hp) (E : XK) (c : Cg false (cxOf (L2.CX P w) P w K mg base N_needs "needs" (defScope s_needs) f cdv A outer s H E) E 2) :
    ASs (cxOf (L2.CX P w) P w K mg base N_needs "needs" (defScope s_needs) f cdv A outer s H E) E (defBody s_needs) (PT.w_needs z) :=
  (ass_cons (as_set 1 c.nd (ae_lst true aa_nil))
    (ass_cons (as_set 2 c.nd ae_int)
    (ass_cons (as_for c (ai_rng3 T.z_range (aa_cons (ae_orT (ag_prop c R_Ledger_greatest (by decide) (ae_var 0)) (ae_one ae_int)) (aa_cons ae_int (aa_cons (ae_neg ae_int) aa_nil)))) (ag_name 3 c.nd) (ass_cons (as_set 4 c.nd (ag_ixOwn c R_Ledger___getitem__ (by decide) (ae_var 0) (ae_var 3)))
    (ass_cons (as_set 2 c.nd (ae_b (dMax1_ok c.calm) T.z_max bb_max (aa_cons (ae_lst false (aa_cons ae_int (aa_cons (ae_neg (ae_var 4)) (aa_cons (ae_sub (ae_var 2) (ae_var 4)) (aa_cons (ae_bt dInt_ok T.z_int bb_int (aa_cons (ae_gt (ae_var 4) ae_int) aa_nil)) aa_nil))))) aa_nil)))
    (ass_one (as_expr (ae_append (ae_var 1) (aa_cons (ae_var 2) aa_nil)))))))
    (ass_one (as_ret (ae_bt dTupOf_ok T.z_tuple bb_tuple (aa_cons (ae_rev false (ae_var 1)) aa_nil)))))))
theorem d_need {z : Ad} (T : Txt K mg z) (C_needs : Cal false P w K mg base "needs" 3 1 [] (fun ds _ => ds) (PT.S_needs z)) {f : Addr} (cdv : Value) (A : Around) (outer : List PySem.Env) (s : Shared) (H : Hp) (E : XK) (c : Cg false (cxOf (L2.CX P w) P w K mg base N_need "need" (defScope s_need) f cdv A outer s H E) E 3) :
    ASs (cxOf (L2.CX P w) P w K mg base N_need "need" (defScope s_need) f cdv A outer s H E) E (defBody s_need) (PT.w_need z) :=
  (ass_one (as_ret (ae_b (dSumT_ok c.calm) T.z_sum bb_sum (aa_cons (ae_call c C_needs (by decide) (by decide) (aa_cons (ae_var 0) aa_nil)) aa_nil))))
theorem d_is_row {z : Ad} (T : Txt K mg z) (C_is_between : Cal false P w K mg base "is_between" 2 3 [] (fun ds _ => ds) (PK.S_is_between z)) (C_is_integer : Cal false P w K mg base "is_integer" 1 1 [] (fun ds _ => ds) (PK.S_is_integer z)) {f : Addr} (cdv : Value) (A : Around) (outer : List PySem.Env) (s : Shared) (H : Hp) (E : XK) (c : Cg false (cxOf (L2.CX P w) P w K mg base N_is_row "is_row" (defScope s_is_row) f cdv A outer s H E) E 2) :
    ASs (cxOf (L2.CX P w) P w K mg base N_is_row "is_row" (defScope s_is_row) f cdv A outer s H E) E (defBody s_is_row) (PL.w_is_row z) :=
  (ass_cons (as_if (AW.at (aw_or (at_not (at_val (ae_b dIsi_ok T.z_isinstance bb_isinstance (aa_cons (ae_var 0) (aa_cons (ae_ty T.z_tuple bb_tuple) aa_nil))))) (aw_or1 (at_ne c (ae_b dLen_ok T.z_len bb_len (aa_cons (ae_var 0) aa_nil)) ae_int)))) (ass_one (as_ret ae_bl)) ass_nil)
    (ass_one (as_ret (ae_and (ae_call c C_is_between (by decide) (by decide) (aa_cons (ae_ix (ae_var 0) ae_int) (aa_cons ae_int (aa_cons (ae_glob T.c_MOST_OFFSET) aa_nil)))) (ae_one (ae_call c C_is_integer (by decide) (by decide) (aa_cons (ae_ix (ae_var 0) ae_int) aa_nil)))))))
theorem d_Ledger___init__ {z : Ad} (T : Txt K mg z) (C_is_row : Cal false P w K mg base "is_row" 3 1 [] (fun ds _ => ds) (PL.S_is_row z)) {f : Addr} (cdv : Value) (A : Around) (outer : List PySem.Env) (s : Shared) (H : Hp) (E : XK) (c : Cg false (cxOf (L2.CX P w) P w K mg base N_Ledger___init__ "Ledger.__init__" (defScope s_Ledger___init__) f cdv A outer s H E) E 3) :
    ASs (cxOf (L2.CX P w) P w K mg base N_Ledger___init__ "Ledger.__init__" (defScope s_Ledger___init__) f cdv A outer s H E) E (defBody s_Ledger___init__) (PL.w_Ledger___init__ z) :=
  (ass_cons (as_set 2 c.nd ae_dnew)
    (ass_cons (as_for c (ai_num T.z_enumerate (aa_cons (ae_var 1) aa_nil)) (ag_tup c.calm (ags_cons (ag_name 3 c.nd) (ags_cons (ag_name 4 c.nd) ags_nil))) (ass_cons (as_if (at_not (at_val (ae_call c C_is_row (by decide) (by decide) (aa_cons (ae_var 4) aa_nil)))) (ass_one as_never) ass_nil)
    (ass_one (as_dput c (ae_var 2) (ae_ix (ae_var 4) ae_int) (ae_add false (ae_get2 c (ae_var 2) (ae_ix (ae_var 4) ae_int) ae_int ⟨rfl, rfl, rfl, rfl⟩) (ae_ix (ae_var 4) ae_int))))))
    (ass_one (as_fld T.k_Ledger T.n_Ledger_amounts (ae_var 0) (ae_dc false (own := [("offset", 5)]) c (ai_list (ae_b (dSortD_ok (m := false) c.calm) T.z_sorted PyProof.Rows.boot_sorted (aa_cons (ae_var 2) aa_nil))) (show BlkOk N_Ledger___init__ (defScope s_Ledger___init__) _ [("offset", 5)] from ⟨rfl, by decide +kernel, by decide +kernel, by decide +kernel, by decide +kernel⟩) (gw_name (i := 5) (by decide)) (fun s H C cl fp => pg_name (i := 5) c.nd rfl (by first | exact Or.inl rfl | exact Or.inr rfl)) (fun s H C cl fp c => ats_one (at_ne c (ae_dget c (ae_var 2) (ae_var 5) (fun _ _ => rfl)) ae_int)) (fun s H C cl fp c => (ae_var 5)) (fun s H C cl fp c => (ae_dget c (ae_var 2) (ae_var 5) (fun _ _ => rfl))))))))
theorem d_Ledger_rows {z : Ad} (T : Txt K mg z)  {f : Addr} (cdv : Value) (A : Around) (outer : List PySem.Env) (s : Shared) (H : Hp) (E : XK) (c : Cg false (cxOf (L2.CX P w) P w K mg base N_Ledger_rows "Ledger.rows" (defScope s_Ledger_rows) f cdv A outer s H E) E 0) :
    ASs (cxOf (L2.CX P w) P w K mg base N_Ledger_rows "Ledger.rows" (defScope s_Ledger_rows) f cdv A outer s H E) E (defBody s_Ledger_rows) (PL.w_Ledger_rows z) :=
  (ass_one (as_ret (ae_tupIt T.z_tuple c (ae_fld T.k_Ledger T.n_Ledger_amounts (ae_var 0)))))
theorem d_Ledger_greatest {z : Ad} (T : Txt K mg z)  {f : Addr} (cdv : Value) (A : Around) (outer : List PySem.Env) (s : Shared) (H : Hp) (E : XK) (c : Cg false (cxOf (L2.CX P w) P w K mg base N_Ledger_greatest "Ledger.greatest" (defScope s_Ledger_greatest) f cdv A outer s H E) E 0) :
    ASs (cxOf (L2.CX P w) P w K mg base N_Ledger_greatest "Ledger.greatest" (defScope s_Ledger_greatest) f cdv A outer s H E) E (defBody s_Ledger_greatest) (PL.w_Ledger_greatest z) :=
  (ass_one (as_ret (ae_maxDd T.z_max c (aa_cons (ae_fld T.k_Ledger T.n_Ledger_amounts (ae_var 0)) aa_nil) (ak_cons ae_non ak_nil))))
theorem d_Ledger___getitem__ {z : Ad} (T : Txt K mg z)  {f : Addr} (cdv : Value) (A : Around) (outer : List PySem.Env) (s : Shared) (H : Hp) (E : XK) (c : Cg false (cxOf (L2.CX P w) P w K mg base N_Ledger___getitem__ "Ledger.__getitem__" (defScope s_Ledger___getitem__) f cdv A outer s H E) E 0) :
    ASs (cxOf (L2.CX P w) P w K mg base N_Ledger___getitem__ "Ledger.__getitem__" (defScope s_Ledger___getitem__) f cdv A outer s H E) E (defBody s_Ledger___getitem__) (PL.w_Ledger___getitem__ z) :=
  (ass_one (as_ret (ae_get2 c (ae_fld T.k_Ledger T.n_Ledger_amounts (ae_var 0)) (ae_var 1) ae_int ⟨rfl, rfl, rfl, rfl⟩)))
theorem d_need_table {z : Ad} (T : Txt K mg z) (C_is_between : Cal false P w K mg base "is_between" 2 3 [] (fun ds _ => ds) (PK.S_is_between z)) (X_InvalidTable : XMk P w K mg base "InvalidTable" z.InvalidTable 1 ["index"]) {f : Addr} (cdv : Value) (A : Around) (outer : List PySem.Env) (s : Shared) (H : Hp) (E : XK) (c : Cg false (cxOf (L2.CX P w) P w K mg base N_need_table "need_table" (defScope s_need_table) f cdv A outer s H E) E 2) :
    ASs (cxOf (L2.CX P w) P w K mg base N_need_table "need_table" (defScope s_need_table) f cdv A outer s H E) E (defBody s_need_table) (PT.w_need_table z) :=
  (ass_cons (as_if (AW.at (aw_or (at_not (at_val (ae_b dIsi_ok T.z_isinstance bb_isinstance (aa_cons (ae_var 0) (aa_cons (ae_ty T.z_tuple bb_tuple) aa_nil))))) (aw_or1 (at_not (at_chain2 dCmpI_ok dCmpI_ok op_le op_le ae_int (ae_b dLen_ok T.z_len bb_len (aa_cons (ae_var 0) aa_nil)) (ae_glob T.c_MOST_ENTRIES)))))) (ass_one (as_raise c X_InvalidTable (by decide) (aa_cons (ae_neg ae_int) aa_nil))) ass_nil)
    (ass_one (as_for c (ai_num T.z_enumerate (aa_cons (ae_var 0) aa_nil)) (ag_tup c.calm (ags_cons (ag_name 1 c.nd) (ags_cons (ag_name 2 c.nd) ags_nil))) (ass_one (as_if (at_not (at_val (ae_call c C_is_between (by decide) (by decide) (aa_cons (ae_var 2) (aa_cons ae_int (aa_cons (ae_glob T.c_MOST_ENTRY) aa_nil)))))) (ass_one (as_raise c X_InvalidTable (by decide) (aa_cons (ae_var 1) aa_nil))) ass_nil)))))
theorem d_is_broken {z : Ad} (T : Txt K mg z)  {f : Addr} (cdv : Value) (A : Around) (outer : List PySem.Env) (s : Shared) (H : Hp) (E : XK) (c : Cg false (cxOf (L2.CX P w) P w K mg base N_is_broken "is_broken" (defScope s_is_broken) f cdv A outer s H E) E 0) :
    ASs (cxOf (L2.CX P w) P w K mg base N_is_broken "is_broken" (defScope s_is_broken) f cdv A outer s H E) E (defBody s_is_broken) (PT.w_is_broken z) :=
  (ass_one (as_ret (ae_ne c (ae_mod (ae_sub (ae_ix (ae_var 0) (ae_neg ae_int)) (ae_ix (ae_var 0) (ae_sub (ae_var 1) ae_int))) (ae_var 1)) ae_int)))
theorem d_broken_capacities {z : Ad} (T : Txt K mg z) (C_is_broken : Cal false P w K mg base "is_broken" 1 2 [] (fun ds _ => ds) (PT.S_is_broken z)) {f : Addr} (cdv : Value) (A : Around) (outer : List PySem.Env) (s : Shared) (H : Hp) (E : XK) (c : Cg false (cxOf (L2.CX P w) P w K mg base N_broken_capacities "broken_capacities" (defScope s_broken_capacities) f cdv A outer s H E) E 1) :
    ASs (cxOf (L2.CX P w) P w K mg base N_broken_capacities "broken_capacities" (defScope s_broken_capacities) f cdv A outer s H E) E (defBody s_broken_capacities) (PT.w_broken_capacities z) :=
  (ass_one (as_ret (ae_lc false (own := [("capacity", 1)]) c (ai_rng2 T.z_range (aa_cons ae_int (aa_cons (ae_add false (ae_b dLen_ok T.z_len bb_len (aa_cons (ae_var 0) aa_nil)) ae_int) aa_nil))) (show BlkOk N_broken_capacities (defScope s_broken_capacities) _ [("capacity", 1)] from ⟨rfl, by decide +kernel, by decide +kernel, by decide +kernel, by decide +kernel⟩) (gw_name (i := 1) (by decide)) (fun s H C cl fp => pg_name (i := 1) c.nd rfl (by first | exact Or.inl rfl | exact Or.inr rfl)) (fun s H C cl fp c => ats_one (at_val (ae_call c C_is_broken (by decide) (by decide) (aa_cons (ae_var 0) (aa_cons (ae_var 1) aa_nil))))) (fun s H C cl fp c => (ae_var 1)))))
theorem d_first_broken {z : Ad} (T : Txt K mg z) (C_broken_capacities : Cal false P w K mg base "broken_capacities" 2 1 [] (fun ds _ => ds) (PT.S_broken_capacities z)) (C_need_table : Cal false P w K mg base "need_table" 3 1 [] (fun ds _ => ds) (PT.S_need_table z)) {f : Addr} (cdv : Value) (A : Around) (outer : List PySem.Env) (s : Shared) (H : Hp) (E : XK) (c : Cg false (cxOf (L2.CX P w) P w K mg base N_first_broken "first_broken" (defScope s_first_broken) f cdv A outer s H E) E 3) :
    ASs (cxOf (L2.CX P w) P w K mg base N_first_broken "first_broken" (defScope s_first_broken) f cdv A outer s H E) E (defBody s_first_broken) (PT.w_first_broken z) :=
  (ass_cons (as_expr (ae_call c C_need_table (by decide) (by decide) (aa_cons (ae_var 0) aa_nil)))
    (ass_one (as_ret (ae_ix (ae_add false (ae_call c C_broken_capacities (by decide) (by decide) (aa_cons (ae_var 0) aa_nil)) (ae_lst false (aa_cons ae_non aa_nil))) ae_int))))
theorem d_rests_of {z : Ad} (T : Txt K mg z)  {f : Addr} (cdv : Value) (A : Around) (outer : List PySem.Env) (s : Shared) (H : Hp) (E : XK) (c : Cg false (cxOf (L2.CX P w) P w K mg base N_rests_of "rests_of" (defScope s_rests_of) f cdv A outer s H E) E 0) :
    ASs (cxOf (L2.CX P w) P w K mg base N_rests_of "rests_of" (defScope s_rests_of) f cdv A outer s H E) E (defBody s_rests_of) (PT.w_rests_of z) :=
  (ass_cons (as_set 1 c.nd (ae_b dLen_ok T.z_len bb_len (aa_cons (ae_var 0) aa_nil)))
    (ass_cons (as_set 2 c.nd (ae_mul true (ae_lst false (aa_cons ae_int aa_nil)) (ae_var 1)))
    (ass_cons (as_for c (ai_rng3 T.z_range (aa_cons (ae_var 1) (aa_cons ae_int (aa_cons (ae_neg ae_int) aa_nil)))) (ag_name 3 c.nd) (ass_cons (as_setLc false 4 (own := [("further", 5)]) c (ai_rng3 T.z_range (aa_cons (ae_mul false ae_int (ae_var 3)) (aa_cons (ae_add false (ae_var 1) ae_int) (aa_cons (ae_var 3) aa_nil)))) (show BlkOk N_rests_of (defScope s_rests_of) _ [("further", 5)] from ⟨rfl, by decide +kernel, by decide +kernel, by decide +kernel, by decide +kernel⟩) (gw_name (i := 5) (by decide)) (fun s H C cl fp => pg_name (i := 5) c.nd rfl (by first | exact Or.inl rfl | exact Or.inr rfl)) (fun s H C cl fp c => ats_nil) (fun s H C cl fp c => (ae_ix (ae_var 2) (ae_sub (ae_var 5) ae_int))))
    (ass_one (as_asg (ae_sub (ae_div (ae_sub (ae_ix (ae_var 0) (ae_neg ae_int)) (ae_ix (ae_var 0) (ae_sub (ae_var 3) ae_int))) (ae_var 3)) (ae_b (dSum_ok c.calm) T.z_sum bb_sum (aa_cons (ae_var 4) aa_nil))) (ag_subL (ae_var 2) (ae_sub (ae_var 3) ae_int) (fun _ => rfl))))))
    (ass_one (as_ret (ae_bt dTupOf_ok T.z_tuple bb_tuple (aa_cons (ae_var 2) aa_nil)))))))
theorem d_rests {z : Ad} (T : Txt K mg z) (C_broken_capacities : Cal false P w K mg base "broken_capacities" 2 1 [] (fun ds _ => ds) (PT.S_broken_capacities z)) (C_need_table : Cal false P w K mg base "need_table" 3 1 [] (fun ds _ => ds) (PT.S_need_table z)) (C_rests_of : Cal false P w K mg base "rests_of" 1 1 [] (fun ds _ => ds) (PT.S_rests_of z)) {f : Addr} (cdv : Value) (A : Around) (outer : List PySem.Env) (s : Shared) (H : Hp) (E : XK) (c : Cg false (cxOf (L2.CX P w) P w K mg base N_rests "rests" (defScope s_rests) f cdv A outer s H E) E 3) :
    ASs (cxOf (L2.CX P w) P w K mg base N_rests "rests" (defScope s_rests) f cdv A outer s H E) E (defBody s_rests) (PT.w_rests z) :=
  (ass_cons (as_expr (ae_call c C_need_table (by decide) (by decide) (aa_cons (ae_var 0) aa_nil)))
    (ass_one (as_ret (ae_if (at_ne c (ae_call c C_broken_capacities (by decide) (by decide) (aa_cons (ae_var 0) aa_nil)) (ae_lst false aa_nil)) ae_non (ae_call c C_rests_of (by decide) (by decide) (aa_cons (ae_var 0) aa_nil))))))
theorem d_told_ledger {z : Ad} (T : Txt K mg z) (C_rests_of : Cal false P w K mg base "rests_of" 1 1 [] (fun ds _ => ds) (PT.S_rests_of z)) (M_Ledger : MakC P w K mg base "Ledger" z.Ledger 4 (starS 1 (PL.S_Ledger___init__ z))) {f : Addr} (cdv : Value) (A : Around) (outer : List PySem.Env) (s : Shared) (H : Hp) (E : XK) (c : Cg false (cxOf (L2.CX P w) P w K mg base N_told_ledger "told_ledger" (defScope s_told_ledger) f cdv A outer s H E) E 5) :
    ASs (cxOf (L2.CX P w) P w K mg base N_told_ledger "told_ledger" (defScope s_told_ledger) f cdv A outer s H E) E (defBody s_told_ledger) (PT.w_told_ledger z) :=
  (ass_cons (as_set 1 c.nd (ae_call c C_rests_of (by decide) (by decide) (aa_cons (ae_var 0) aa_nil)))
    (ass_cons (as_setLc false 2 (own := [("offset", 3)]) c (ai_rng2 T.z_range (aa_cons ae_int (aa_cons (ae_b dLen_ok T.z_len bb_len (aa_cons (ae_var 0) aa_nil)) aa_nil))) (show BlkOk N_told_ledger (defScope s_told_ledger) _ [("offset", 3)] from ⟨rfl, by decide +kernel, by decide +kernel, by decide +kernel, by decide +kernel⟩) (gw_name (i := 3) (by decide)) (fun s H C cl fp => pg_name (i := 3) c.nd rfl (by first | exact Or.inl rfl | exact Or.inr rfl)) (fun s H C cl fp c => ats_nil) (fun s H C cl fp c => (ae_tup (aa_cons (ae_var 3) (aa_cons (ae_sub (ae_ix (ae_var 1) (ae_sub (ae_var 3) ae_int)) (ae_ix (ae_var 1) (ae_var 3))) aa_nil)))))
    (ass_one (as_ret (ag_makeS c M_Ledger (by decide) (ae_var 2))))))
theorem d_rising_capacities {z : Ad} (T : Txt K mg z) (C_rests_of : Cal false P w K mg base "rests_of" 1 1 [] (fun ds _ => ds) (PT.S_rests_of z)) {f : Addr} (cdv : Value) (A : Around) (outer : List PySem.Env) (s : Shared) (H : Hp) (E : XK) (c : Cg false (cxOf (L2.CX P w) P w K mg base N_rising_capacities "rising_capacities" (defScope s_rising_capacities) f cdv A outer s H E) E 1) :
    ASs (cxOf (L2.CX P w) P w K mg base N_rising_capacities "rising_capacities" (defScope s_rising_capacities) f cdv A outer s H E) E (defBody s_rising_capacities) (PT.w_rising_capacities z) :=
  (ass_cons (as_set 1 c.nd (ae_call c C_rests_of (by decide) (by decide) (aa_cons (ae_var 0) aa_nil)))
    (ass_one (as_ret (ae_lc false (own := [("capacity", 2)]) c (ai_rng2 T.z_range (aa_cons ae_int (aa_cons (ae_b dLen_ok T.z_len bb_len (aa_cons (ae_var 0) aa_nil)) aa_nil))) (show BlkOk N_rising_capacities (defScope s_rising_capacities) _ [("capacity", 2)] from ⟨rfl, by decide +kernel, by decide +kernel, by decide +kernel, by decide +kernel⟩) (gw_name (i := 2) (by decide)) (fun s H C cl fp => pg_name (i := 2) c.nd rfl (by first | exact Or.inl rfl | exact Or.inr rfl)) (fun s H C cl fp c => ats_one (at_lt (ae_ix (ae_var 1) (ae_sub (ae_var 2) ae_int)) (ae_ix (ae_var 1) (ae_var 2)))) (fun s H C cl fp c => (ae_var 2))))))
theorem d_far_offsets {z : Ad} (T : Txt K mg z) (C_told_ledger : Cal false P w K mg base "told_ledger" 6 1 [] (fun ds _ => ds) (PT.S_told_ledger z)) (R_Ledger_rows : PrpC P w K mg base z.Ledger "rows" 1 (PL.S_Ledger_rows z)) {f : Addr} (cdv : Value) (A : Around) (outer : List PySem.Env) (s : Shared) (H : Hp) (E : XK) (c : Cg false (cxOf (L2.CX P w) P w K mg base N_far_offsets "far_offsets" (defScope s_far_offsets) f cdv A outer s H E) E 6) :
    ASs (cxOf (L2.CX P w) P w K mg base N_far_offsets "far_offsets" (defScope s_far_offsets) f cdv A outer s H E) E (defBody s_far_offsets) (PT.w_far_offsets z) :=
  (ass_one (as_ret (ae_lc false (own := [("offset", 1), ("amount", 2)]) c (ai_tup (ag_prop c R_Ledger_rows (by decide) (ae_call c C_told_ledger (by decide) (by decide) (aa_cons (ae_var 0) aa_nil)))) (show BlkOk N_far_offsets (defScope s_far_offsets) _ [("offset", 1), ("amount", 2)] from ⟨rfl, by decide +kernel, by decide +kernel, by decide +kernel, by decide +kernel⟩) (gw_tup (is := [1, 2]) (by decide)) (fun s H C cl fp => pg_tup c.calm (pgs_cons (pg_name (i := 1) c.nd rfl (by first | exact Or.inl rfl | exact Or.inr rfl)) (pgs_cons (pg_name (i := 2) c.nd rfl (by first | exact Or.inl rfl | exact Or.inr rfl)) pgs_nil))) (fun s H C cl fp c => ats_one (AW.at (aw_and (at_gt (ae_var 2) ae_int) (aw_and1 (at_gt (ae_var 1) (ae_ix (ae_var 0) ae_int)))))) (fun s H C cl fp c => (ae_var 1)))))
theorem d_least_written {z : Ad} (T : Txt K mg z) (C_need : Cal false P w K mg base "need" 4 1 [] (fun ds _ => ds) (PT.S_need z)) (C_told_ledger : Cal false P w K mg base "told_ledger" 6 1 [] (fun ds _ => ds) (PT.S_told_ledger z)) {f : Addr} (cdv : Value) (A : Around) (outer : List PySem.Env) (s : Shared) (H : Hp) (E : XK) (c : Cg false (cxOf (L2.CX P w) P w K mg base N_least_written "least_written" (defScope s_least_written) f cdv A outer s H E) E 6) :
    ASs (cxOf (L2.CX P w) P w K mg base N_least_written "least_written" (defScope s_least_written) f cdv A outer s H E) E (defBody s_least_written) (PT.w_least_written z) :=
  (ass_cons (as_set 1 c.nd (ae_call c C_need (by decide) (by decide) (aa_cons (ae_call c C_told_ledger (by decide) (by decide) (aa_cons (ae_var 0) aa_nil)) aa_nil)))
    (ass_one (as_ret (ae_if (at_gt (ae_var 1) (ae_ix (ae_var 0) ae_int)) (ae_lst false (aa_cons (ae_var 1) aa_nil)) (ae_lst false aa_nil)))))
theorem d_refusals {z : Ad} (T : Txt K mg z) (C_broken_capacities : Cal false P w K mg base "broken_capacities" 2 1 [] (fun ds _ => ds) (PT.S_broken_capacities z)) (C_far_offsets : Cal false P w K mg base "far_offsets" 7 1 [] (fun ds _ => ds) (PT.S_far_offsets z)) (C_least_written : Cal false P w K mg base "least_written" 7 1 [] (fun ds _ => ds) (PT.S_least_written z)) (C_rising_capacities : Cal false P w K mg base "rising_capacities" 2 1 [] (fun ds _ => ds) (PT.S_rising_capacities z)) {f : Addr} (cdv : Value) (A : Around) (outer : List PySem.Env) (s : Shared) (H : Hp) (E : XK) (c : Cg false (cxOf (L2.CX P w) P w K mg base N_refusals "refusals" (defScope s_refusals) f cdv A outer s H E) E 7) :
    ASs (cxOf (L2.CX P w) P w K mg base N_refusals "refusals" (defScope s_refusals) f cdv A outer s H E) E (defBody s_refusals) (PT.w_refusals z) :=
  (ass_cons (as_set 2 c.nd (ae_call c C_broken_capacities (by decide) (by decide) (aa_cons (ae_var 0) aa_nil)))
    (ass_cons (as_if (at_ne c (ae_var 2) (ae_lst false aa_nil)) (ass_one (as_ret (ae_tup (aa_cons (ae_glob T.c_BROKEN) (aa_cons (ae_var 2) aa_nil))))) ass_nil)
    (ass_cons (as_if (at_not (at_truth (ae_var 1))) (ass_one (as_ret (ae_tup (aa_cons (ae_glob T.c_FEW) (aa_cons (ae_call c C_least_written (by decide) (by decide) (aa_cons (ae_var 0) aa_nil)) aa_nil))))) ass_nil)
    (ass_cons (as_set 3 c.nd (ae_call c C_rising_capacities (by decide) (by decide) (aa_cons (ae_var 0) aa_nil)))
    (ass_one (as_ret (ae_if (at_ne c (ae_var 3) (ae_lst false aa_nil)) (ae_tup (aa_cons (ae_glob T.c_RISES) (aa_cons (ae_var 3) aa_nil))) (ae_tup (aa_cons (ae_glob T.c_FAR) (aa_cons (ae_call c C_far_offsets (by decide) (by decide) (aa_cons (ae_var 0) aa_nil)) aa_nil))))))))))
theorem d_judge_table {z : Ad} (T : Txt K mg z) (C_need_table : Cal false P w K mg base "need_table" 3 1 [] (fun ds _ => ds) (PT.S_need_table z)) (C_refusals : Cal false P w K mg base "refusals" 8 2 [] (fun ds _ => ds) (PT.S_refusals z)) (C_told_ledger : Cal false P w K mg base "told_ledger" 6 1 [] (fun ds _ => ds) (PT.S_told_ledger z)) {f : Addr} (cdv : Value) (A : Around) (outer : List PySem.Env) (s : Shared) (H : Hp) (E : XK) (c : Cg false (cxOf (L2.CX P w) P w K mg base N_judge_table "judge_table" (defScope s_judge_table) f cdv A outer s H E) E 8) :
    ASs (cxOf (L2.CX P w) P w K mg base N_judge_table "judge_table" (defScope s_judge_table) f cdv A outer s H E) E (defBody s_judge_table) (PT.w_judge_table z) :=
  (ass_cons (as_expr (ae_call c C_need_table (by decide) (by decide) (aa_cons (ae_var 0) aa_nil)))
    (ass_cons (as_asg (ae_call c C_refusals (by decide) (by decide) (aa_cons (ae_var 0) (aa_cons (ae_var 1) aa_nil))) (ag_tup c.calm (ags_cons (ag_name 2 c.nd) (ags_cons (ag_name 3 c.nd) ags_nil))))
    (ass_cons (as_if (at_eq c (ae_var 3) (ae_lst false aa_nil)) (ass_one (as_ret (ae_tup (aa_cons (ae_glob T.c_ACCOUNT) (aa_cons (ae_ix (ae_var 0) ae_int) (aa_cons (ae_call c C_told_ledger (by decide) (by decide) (aa_cons (ae_var 0) aa_nil)) aa_nil)))))) ass_nil)
    (ass_one (as_ret (ae_tup (aa_cons (ae_var 2) (aa_cons (ae_if (at_eq c (ae_var 2) (ae_glob T.c_FAR)) (ae_ix (ae_var 3) (ae_neg ae_int)) (ae_ix (ae_var 3) ae_int)) aa_nil))))))))
theorem d_is_account {z : Ad} (T : Txt K mg z) (C_is_integer : Cal false P w K mg base "is_integer" 1 1 [] (fun ds _ => ds) (PK.S_is_integer z)) (C_told_ledger : Cal false P w K mg base "told_ledger" 6 1 [] (fun ds _ => ds) (PT.S_told_ledger z)) {f : Addr} (cdv : Value) (A : Around) (outer : List PySem.Env) (s : Shared) (H : Hp) (E : XK) (c : Cg false (cxOf (L2.CX P w) P w K mg base N_is_account "is_account" (defScope s_is_account) f cdv A outer s H E) E 6) :
    ASs (cxOf (L2.CX P w) P w K mg base N_is_account "is_account" (defScope s_is_account) f cdv A outer s H E) E (defBody s_is_account) (PT.w_is_account z) :=
  (ass_cons (as_if (AW.at (aw_or (at_not (at_val (ae_call c C_is_integer (by decide) (by decide) (aa_cons (ae_var 1) aa_nil)))) (aw_or1 (at_not (at_val (ae_b (dIsiO_ok T.i_Ledger) T.z_isinstance bb_isinstance (aa_cons (ae_var 2) (aa_cons (ae_glob T.v_Ledger) aa_nil)))))))) (ass_one (as_ret ae_bl)) ass_nil)
    (ass_one (as_ret (ae_and (ae_eq c (ae_var 1) (ae_ix (ae_var 0) ae_int)) (ae_one (ae_eq c (ae_var 2) (ae_call c C_told_ledger (by decide) (by decide) (aa_cons (ae_var 0) aa_nil))))))))
theorem d_check_table {z : Ad} (T : Txt K mg z) (C_is_account : Cal false P w K mg base "is_account" 7 3 [] (fun ds _ => ds) (PT.S_is_account z)) (C_is_integer : Cal false P w K mg base "is_integer" 1 1 [] (fun ds _ => ds) (PK.S_is_integer z)) (C_need_table : Cal false P w K mg base "need_table" 3 1 [] (fun ds _ => ds) (PT.S_need_table z)) (C_refusals : Cal false P w K mg base "refusals" 8 2 [] (fun ds _ => ds) (PT.S_refusals z)) {f : Addr} (cdv : Value) (A : Around) (outer : List PySem.Env) (s : Shared) (H : Hp) (E : XK) (c : Cg false (cxOf (L2.CX P w) P w K mg base N_check_table "check_table" (defScope s_check_table) f cdv A outer s H E) E 8) :
    ASs (cxOf (L2.CX P w) P w K mg base N_check_table "check_table" (defScope s_check_table) f cdv A outer s H E) E (defBody s_check_table) (PT.w_check_table z) :=
  (ass_cons (as_expr (ae_call c C_need_table (by decide) (by decide) (aa_cons (ae_var 0) aa_nil)))
    (ass_cons (as_if (AW.at (aw_or (at_not (at_val (ae_b dIsi_ok T.z_isinstance bb_isinstance (aa_cons (ae_var 1) (aa_cons (ae_ty T.z_tuple bb_tuple) aa_nil))))) (aw_or (at_notin (ae_b dLen_ok T.z_len bb_len (aa_cons (ae_var 1) aa_nil)) (ae_tup (aa_cons ae_int (aa_cons ae_int aa_nil)))) (aw_or1 (at_not (at_val (ae_b dIsi_ok T.z_isinstance bb_isinstance (aa_cons (ae_ix (ae_var 1) ae_int) (aa_cons (ae_ty T.z_str bb_str) aa_nil))))))))) (ass_one (as_ret ae_bl)) ass_nil)
    (ass_cons (as_asg (ae_call c C_refusals (by decide) (by decide) (aa_cons (ae_var 0) (aa_cons (ae_var 2) aa_nil))) (ag_tup c.calm (ags_cons (ag_name 3 c.nd) (ags_cons (ag_name 4 c.nd) ags_nil))))
    (ass_cons (as_if (at_eq c (ae_b dLen_ok T.z_len bb_len (aa_cons (ae_var 1) aa_nil)) ae_int) (ass_one (as_ret (ae_and (ae_eq c (ae_ix (ae_var 1) ae_int) (ae_glob T.c_ACCOUNT)) (ae_and (ae_eq c (ae_var 4) (ae_lst false aa_nil)) (ae_one (ae_call c C_is_account (by decide) (by decide) (aa_cons (ae_var 0) (aa_cons (ae_ix (ae_var 1) ae_int) (aa_cons (ae_ix (ae_var 1) ae_int) aa_nil))))))))) ass_nil)
    (ass_one (as_ret (ae_and (ae_eq c (ae_ix (ae_var 1) ae_int) (ae_var 3)) (ae_and (ae_call c C_is_integer (by decide) (by decide) (aa_cons (ae_ix (ae_var 1) ae_int) aa_nil)) (ae_one (ae_in (ae_ix (ae_var 1) ae_int) (ae_var 4)))))))))))
theorem d__law_pen {z : Ad} (T : Txt K mg z)  {f : Addr} (cdv : Value) (A : Around) (outer : List PySem.Env) (s : Shared) (H : Hp) (E : XK) (c : Cg false (cxOf (L2.CX P w) P w K mg base N__law_pen "_law_pen" (defScope s__law_pen) f cdv A outer s H E) E 0) :
    ASs (cxOf (L2.CX P w) P w K mg base N__law_pen "_law_pen" (defScope s__law_pen) f cdv A outer s H E) E (defBody s__law_pen) (w__law_pen z) :=
  (ass_one (as_ret (ae_lst true (aa_cons (ae_bt (dListOf_ok (m := false)) T.z_list bb_list (aa_cons (ae_sl false (ae_var 0) ao_none (ao_some ae_int)) aa_nil)) (aa_cons ae_int (aa_cons ae_int aa_nil))))))
theorem d__law_draw {z : Ad} (T : Txt K mg z)  {f : Addr} (cdv : Value) (A : Around) (outer : List PySem.Env) (s : Shared) (H : Hp) (E : XK) (c : Cg false (cxOf (L2.CX P w) P w K mg base N__law_draw "_law_draw" (defScope s__law_draw) f cdv A outer s H E) E 0) :
    ASs (cxOf (L2.CX P w) P w K mg base N__law_draw "_law_draw" (defScope s__law_draw) f cdv A outer s H E) E (defBody s__law_draw) (w__law_draw z) :=
  (ass_cons (as_if (at_gt (ae_ix (ae_var 0) ae_int) ae_int) (ass_cons (as_set 2 c.nd (ae_mod (ae_ix (ae_var 0) ae_int) (ae_var 1)))
    (ass_cons (as_asg (ae_div (ae_ix (ae_var 0) ae_int) (ae_var 1)) (ag_subL (ae_var 0) ae_int (fun _ => rfl)))
    (ass_one (as_ret (ae_var 2))))) ass_nil)
    (ass_cons (as_set 3 c.nd (ae_ix (ae_var 0) ae_int))
    (ass_cons (as_asg (ae_add false (ae_var 3) ae_int) (ag_subL (ae_var 0) ae_int (fun _ => rfl)))
    (ass_cons (as_set 4 c.nd (ae_add false (ae_mul false ae_int (ae_var 3)) ae_int))
    (ass_cons (as_if (at_ne c (ae_ix (ae_var 0) ae_int) (ae_lst false aa_nil)) (ass_one (as_set 4 c.nd (ae_ix (ae_ix (ae_var 0) ae_int) (ae_mod (ae_var 3) (ae_b dLen_ok T.z_len bb_len (aa_cons (ae_ix (ae_var 0) ae_int) aa_nil)))))) ass_nil)
    (ass_cons (as_if (AW.at (aw_and (at_lt (ae_var 3) (ae_b dLen_ok T.z_len bb_len (aa_cons (ae_ix (ae_var 0) ae_int) aa_nil))) (aw_and1 (at_ge (ae_b dAbs_ok T.z_abs bb_abs (aa_cons (ae_var 4) aa_nil)) (ae_pow ae_int ae_int))))) (ass_cons (as_set 5 c.nd (ae_add false (ae_mul false ae_int (ae_b dAbs_ok T.z_abs bb_abs (aa_cons (ae_var 4) aa_nil))) (ae_bt dInt_ok T.z_int bb_int (aa_cons (ae_lt (ae_var 4) ae_int) aa_nil))))
    (ass_cons (as_asg (ae_div (ae_var 5) (ae_var 1)) (ag_subL (ae_var 0) ae_int (fun _ => rfl)))
    (ass_one (as_ret (ae_mod (ae_var 5) (ae_var 1)))))) ass_nil)
    (ass_cons (as_set 6 c.nd (ae_mod (ae_pow (ae_add false (ae_add false (ae_add false (ae_mod (ae_var 4) ae_int) (ae_mul false (ae_mul false ae_int (ae_var 3)) (ae_var 3))) (ae_mul false ae_int (ae_var 3))) ae_int) ae_int) ae_int))
    (ass_cons (as_set 6 c.nd (ae_mod (ae_pow (ae_add false (ae_add false (ae_mul false (ae_var 6) (ae_add false (ae_mul false ae_int (ae_var 3)) ae_int)) (ae_mul false ae_int (ae_var 3))) ae_int) ae_int) ae_int))
    (ass_one (as_ret (ae_mod (ae_div (ae_var 6) ae_int) (ae_var 1))))))))))))
theorem d__law_heard {z : Ad} (T : Txt K mg z)  {f : Addr} (d : D) (tl : Thk) (cdv : Value) (A : Around) (outer : List PySem.Env) (s : Shared) (H : Hp) (E : XK) (c : Cg false (cxOf (L2.CX P w) P w K mg base N__law_heard "_law_heard" (defScope s__law_heard) f cdv A outer s H E) E 0) (act : ActOk (cxOf (L2.CX P w) P w K mg base N__law_heard "_law_heard" (defScope s__law_heard) f cdv A outer s H E) "_law_ask" d tl) :
    ASs (cxOf (L2.CX P w) P w K mg base N__law_heard "_law_heard" (defScope s__law_heard) f cdv A outer s H E) E (defBody s__law_heard) (w__law_heard z d tl) :=
  (ass_cons (as_set 1 c.nd ae_non)
    (ass_cons (as_try 2 1 c T.xerr T.xg_EchoError T.xg_SizeError T.xg_AbsentError (fun pn xe E' tk c => (ass_one (as_expr (act pn xe E' _ _ tk)))) (by decide))
    (ass_cons (as_if (at_is (ae_var 1) ae_non) (ass_one (as_ret (ae_lst false (aa_cons ae_str aa_nil)))) ass_nil)
    (ass_cons (as_set 3 c.nd (ae_b (dIsXT_ok T.xtab) T.z_isinstance bb_isinstance (aa_cons (ae_var 1) (aa_cons (ae_tup (aa_cons (ae_glob T.v_InvalidAccount) (aa_cons (ae_glob T.v_InvalidBound) (aa_cons (ae_glob T.v_InvalidCapacity) (aa_cons (ae_glob T.v_InvalidMode) (aa_cons (ae_glob T.v_InvalidNumber) aa_nil)))))) aa_nil))))
    (ass_cons (as_set 3 c.nd (ae_orT (ae_var 3) (ae_one (ae_b (dIsXT_ok T.xtab) T.z_isinstance bb_isinstance (aa_cons (ae_var 1) (aa_cons (ae_tup (aa_cons (ae_glob T.v_InvalidProgram) (aa_cons (ae_glob T.v_InvalidReading) (aa_cons (ae_glob T.v_InvalidRow) (aa_cons (ae_glob T.v_InvalidText) (aa_cons (ae_glob T.v_Lossy) aa_nil)))))) aa_nil))))))
    (ass_cons (as_set 3 c.nd (ae_orT (ae_var 3) (ae_one (ae_b (dIsXT_ok T.xtab) T.z_isinstance bb_isinstance (aa_cons (ae_var 1) (aa_cons (ae_tup (aa_cons (ae_glob T.v_Contradiction) (aa_cons (ae_glob T.v_DifferentModes) (aa_cons (ae_glob T.v_UnknownCommand) (aa_cons (ae_glob T.v_SizeError) (aa_cons (ae_glob T.v_AbsentError) aa_nil)))))) aa_nil))))))
    (ass_cons (as_if (AW.at (aw_or (at_truth (ae_var 3)) (aw_or (at_not (at_val (ae_b (dIsX_ok T.xtab) T.z_isinstance bb_isinstance (aa_cons (ae_var 1) (aa_cons (ae_glob T.v_InvalidTable) aa_nil))))) (aw_or1 (at_not (at_val (ae_b (dIsX_ok T.xtab) T.z_isinstance bb_isinstance (aa_cons (ae_var 1) (aa_cons (ae_ty T.z_ValueError (by decide +kernel)) aa_nil))))))))) (ass_one (as_ret (ae_lst false (aa_cons ae_str aa_nil)))) ass_nil)
    (ass_one (as_ret (ae_lst false (aa_cons ae_str (aa_cons (ae_xfld T.xf_index (ae_var 1)) aa_nil))))))))))))
theorem d__law_all_heard {z : Ad} (T : Txt K mg z) (C_check_table_d : Cal false P w K mg base "check_table" 9 2 [] (pickE [.inl 0, .inl 1, .inr (.bl false)]) (PT.S_check_table z)) (C_check_table_k_lossless : Cal false P w K mg base "check_table" 9 2 ["lossless"] (pickD [0, 1, 2]) (PT.S_check_table z)) (C_first_broken : Cal false P w K mg base "first_broken" 4 1 [] (fun ds _ => ds) (PT.S_first_broken z)) (C_judge_table_k_lossless_table : Cal false P w K mg base "judge_table" 9 0 ["lossless", "table"] (pickD [1, 0]) (PT.S_judge_table z)) (C_judge_table_d : Cal false P w K mg base "judge_table" 9 1 [] (pickE [.inl 0, .inr (.bl false)]) (PT.S_judge_table z)) (C_rests_k_table : Cal false P w K mg base "rests" 4 0 ["table"] (pickD [0]) (PT.S_rests z)) (H__law_heard : HCal P w K mg base false "_law_heard" 0 (S__law_heard z)) {cc : Addr} (TB : LamX.TabB base mg cc z.t0) {f : Addr} (A : Around) (outer : List PySem.Env) (s : Shared) (H : Hp) (E : XK) (c : Cg false (cxOf (L2.CX P w) P w K mg base N__law_all_heard "_law_all_heard" (defScope s__law_all_heard) f (.ref cc) A outer s H E) E 11) :
    ASs (cxOf (L2.CX P w) P w K mg base N__law_all_heard "_law_all_heard" (defScope s__law_all_heard) f (.ref cc) A outer s H E) E (defBody s__law_all_heard) (w__law_all_heard z) :=
  (ass_cons (as_set 1 c.nd (ae_lst true (aa_cons (ae_heard c H__law_heard (by decide) TB rfl (by decide) (fun A outer s H E' f c' c => (ae_call c C_first_broken (by decide) (by decide) (aa_cons (ae_var 0) aa_nil))) (LamX.lamS_by (show LamX.lamSB (defScope s__law_all_heard) _ = true from by decide +kernel)) (by decide)) aa_nil)))
    (ass_cons (as_expr (ae_append (ae_var 1) (aa_cons (ae_heard c H__law_heard (by decide) TB rfl (by decide) (fun A outer s H E' f c' c => (ae_callK0 c C_rests_k_table (by decide) (by decide) (ak_cons (ae_var 0) ak_nil))) (LamX.lamS_by (show LamX.lamSB (defScope s__law_all_heard) _ = true from by decide +kernel)) (by decide)) aa_nil)))
    (ass_cons (as_expr (ae_append (ae_var 1) (aa_cons (ae_heard c H__law_heard (by decide) TB rfl (by decide) (fun A outer s H E' f c' c => (ae_call c C_judge_table_d (by decide) (by decide) (aa_cons (ae_var 0) aa_nil))) (LamX.lamS_by (show LamX.lamSB (defScope s__law_all_heard) _ = true from by decide +kernel)) (by decide)) aa_nil)))
    (ass_cons (as_expr (ae_append (ae_var 1) (aa_cons (ae_heard c H__law_heard (by decide) TB rfl (by decide) (fun A outer s H E' f c' c => (ae_callK0 c C_judge_table_k_lossless_table (by decide) (by decide) (ak_cons ae_bl (ak_cons (ae_var 0) ak_nil)))) (LamX.lamS_by (show LamX.lamSB (defScope s__law_all_heard) _ = true from by decide +kernel)) (by decide)) aa_nil)))
    (ass_cons (as_expr (ae_append (ae_var 1) (aa_cons (ae_heard c H__law_heard (by decide) TB rfl (by decide) (fun A outer s H E' f c' c => (ae_call c C_check_table_d (by decide) (by decide) (aa_cons (ae_var 0) (aa_cons (ae_tup (aa_cons ae_str (aa_cons ae_int aa_nil))) aa_nil)))) (LamX.lamS_by (show LamX.lamSB (defScope s__law_all_heard) _ = true from by decide +kernel)) (by decide)) aa_nil)))
    (ass_cons (as_expr (ae_append (ae_var 1) (aa_cons (ae_heard c H__law_heard (by decide) TB rfl (by decide) (fun A outer s H E' f c' c => (ae_callK c C_check_table_k_lossless (by decide) (by decide) (aa_cons (ae_var 0) (aa_cons ae_non aa_nil)) (ak_cons ae_bl ak_nil))) (LamX.lamS_by (show LamX.lamSB (defScope s__law_all_heard) _ = true from by decide +kernel)) (by decide)) aa_nil)))
    (ass_one (as_ret (ae_var 1)))))))))
theorem d_law {z : Ad} (T : Txt K mg z) (C__law_all_heard : Cal false P w K mg base "_law_all_heard" 12 1 [] (fun ds _ => ds) (S__law_all_heard z)) (C__law_draw : Cal false P w K mg base "_law_draw" 1 2 [] (fun ds _ => ds) (S__law_draw z)) (C__law_pen : Cal false P w K mg base "_law_pen" 1 1 [] (fun ds _ => ds) (S__law_pen z)) (C_first_broken : Cal false P w K mg base "first_broken" 4 1 [] (fun ds _ => ds) (PT.S_first_broken z)) (C_rests : Cal false P w K mg base "rests" 4 1 [] (fun ds _ => ds) (PT.S_rests z)) {f : Addr} (cdv : Value) (A : Around) (outer : List PySem.Env) (s : Shared) (H : Hp) (E : XK) (c : Cg true (cxOf (L2.CX P w) P w K mg base N_law "law" (defScope s_law) f cdv A outer s H E) E 12) :
    ASs (cxOf (L2.CX P w) P w K mg base N_law "law" (defScope s_law) f cdv A outer s H E) E (defBody s_law) (w_law z) :=
  (ass_cons (as_set 1 c.nd (ae_call c C__law_pen (by decide) (by decide) (aa_cons (ae_var 0) aa_nil)))
    (ass_cons (as_for c (ai_rng1 T.z_range (aa_cons ae_int aa_nil)) (ag_name 2 c.nd) (ass_cons (as_setLc true 3 (own := [("_law_k", 5)]) c (ai_rng1 T.z_range (aa_cons (ae_add false ae_int (ae_call c C__law_draw (by decide) (by decide) (aa_cons (ae_var 1) (aa_cons ae_int aa_nil)))) aa_nil)) (show BlkOk N_law (defScope s_law) _ [("_law_k", 5)] from ⟨rfl, by decide +kernel, by decide +kernel, by decide +kernel, by decide +kernel⟩) (gw_name (i := 5) (by decide)) (fun s H C cl fp => pg_name (i := 5) c.nd rfl (by first | exact Or.inl rfl | exact Or.inr rfl)) (fun s H C cl fp c => ats_nil) (fun s H C cl fp c => (ae_ix (ae_lst false (aa_cons ae_int (aa_cons ae_int (aa_cons (ae_pow ae_int ae_int) (aa_cons (ae_call c C__law_draw (by decide) (by decide) (aa_cons (ae_var 1) (aa_cons ae_int aa_nil))) aa_nil))))) (ae_call c C__law_draw (by decide) (by decide) (aa_cons (ae_var 1) (aa_cons ae_int aa_nil))))))
    (ass_cons (as_if (at_ne c (ae_b (dRepr_ok (c.gd rfl) c.room.units) T.z_repr bb_repr (aa_cons (ae_call c C__law_all_heard (by decide) (by decide) (aa_cons (ae_bt dTupOf_ok T.z_tuple bb_tuple (aa_cons (ae_var 3) aa_nil)) aa_nil)) aa_nil)) (ae_b (dRepr_ok (c.gd rfl) c.room.units) T.z_repr bb_repr (aa_cons (ae_mul false (ae_lst false (aa_cons (ae_lst false (aa_cons ae_str aa_nil)) aa_nil)) ae_int) aa_nil))) (ass_one (as_ret ae_bl)) ass_nil)
    (ass_cons (as_set 4 c.nd (ae_b dLen_ok T.z_len bb_len (aa_cons (ae_var 3) aa_nil)))
    (ass_cons (as_for c (ai_rng1 T.z_range (aa_cons (ae_add false ae_int (ae_call c C__law_draw (by decide) (by decide) (aa_cons (ae_var 1) (aa_cons ae_int aa_nil)))) aa_nil)) (ag_name 5 c.nd) (ass_cons (as_set 6 c.nd (ae_call c C__law_draw (by decide) (by decide) (aa_cons (ae_var 1) (aa_cons (ae_b dLen_ok T.z_len bb_len (aa_cons (ae_var 3) aa_nil)) aa_nil))))
    (ass_cons (as_set 7 c.nd (ae_lst false (aa_cons (ae_neg ae_int) (aa_cons ae_bl (aa_cons ae_bl (aa_cons ae_non (aa_cons ae_str (aa_cons (ae_tup (aa_cons ae_int aa_nil)) (aa_cons (ae_lst false (aa_cons ae_int aa_nil)) (aa_cons ae_dnewF (aa_cons (ae_add false (ae_pow ae_int ae_int) ae_int) (aa_cons (ae_pow ae_int ae_int) (aa_cons (ae_sub ae_int (ae_pow ae_int ae_int)) (aa_cons ae_str aa_nil))))))))))))))
    (ass_cons (as_asg (ae_ix (ae_var 7) (ae_call c C__law_draw (by decide) (by decide) (aa_cons (ae_var 1) (aa_cons ae_int aa_nil)))) (ag_subL (ae_var 3) (ae_var 6) (fun _ => rfl)))
    (ass_one (as_set 4 c.nd (ae_b (dMin1_ok c.calm) T.z_min bb_min (aa_cons (ae_lst false (aa_cons (ae_var 4) (aa_cons (ae_var 6) aa_nil))) aa_nil))))))))
    (ass_cons (as_if (at_ne c (ae_b (dRepr_ok (c.gd rfl) c.room.units) T.z_repr bb_repr (aa_cons (ae_call c C__law_all_heard (by decide) (by decide) (aa_cons (ae_bt dTupOf_ok T.z_tuple bb_tuple (aa_cons (ae_var 3) aa_nil)) aa_nil)) aa_nil)) (ae_b (dRepr_ok (c.gd rfl) c.room.units) T.z_repr bb_repr (aa_cons (ae_mul false (ae_lst false (aa_cons (ae_lst false (aa_cons ae_str (aa_cons (ae_var 4) aa_nil))) aa_nil)) ae_int) aa_nil))) (ass_one (as_ret ae_bl)) ass_nil)
    (ass_cons (as_set 8 c.nd (ae_lst false (aa_cons (ae_var 3) (aa_cons (ae_listRg false c T.z_list T.z_range ae_int) (aa_cons ae_non (aa_cons ae_dnewF (aa_cons (ae_disp (aps_cons ae_int ae_int aps_nil)) (aa_cons ae_str (aa_cons ae_str (aa_cons ae_bl (aa_cons ae_int (aa_cons (ae_tup aa_nil) (aa_cons (ae_mulT (ae_tup (aa_cons ae_int aa_nil)) ae_int) (aa_cons (ae_mulT (ae_tup (aa_cons ae_non aa_nil)) ae_int) (aa_cons (ae_lst false (aa_cons ae_int aa_nil)) aa_nil)))))))))))))))
    (ass_one (as_if (at_ne c (ae_b (dRepr_ok (c.gd rfl) c.room.units) T.z_repr bb_repr (aa_cons (ae_call c C__law_all_heard (by decide) (by decide) (aa_cons (ae_ix (ae_var 8) (ae_call c C__law_draw (by decide) (by decide) (aa_cons (ae_var 1) (aa_cons ae_int aa_nil)))) aa_nil)) aa_nil)) (ae_b (dRepr_ok (c.gd rfl) c.room.units) T.z_repr bb_repr (aa_cons (ae_mul false (ae_lst false (aa_cons (ae_lst false (aa_cons ae_str (aa_cons (ae_neg ae_int) aa_nil))) aa_nil)) ae_int) aa_nil))) (ass_one (as_ret ae_bl)) ass_nil)))))))))
    (ass_cons (as_set 9 c.nd (ae_mulT (ae_tup (aa_cons (ae_pow ae_int ae_int) aa_nil)) ae_int))
    (ass_one (as_ret (ae_and (ae_eq c (ae_call c C__law_all_heard (by decide) (by decide) (aa_cons (ae_var 9) aa_nil)) (ae_mul false (ae_lst false (aa_cons (ae_lst false (aa_cons ae_str aa_nil)) aa_nil)) ae_int)) (ae_and (ae_is (ae_call c C_first_broken (by decide) (by decide) (aa_cons (ae_var 9) aa_nil)) ae_non) (ae_one (ae_eq c (ae_call c C_rests (by decide) (by decide) (aa_cons (ae_var 9) aa_nil)) (ae_mulT (ae_tup (aa_cons ae_int aa_nil)) ae_int))))))))))
end
end K37
namespace K37
open PySem PySem.Spec L2 C8 DL PK PT PyProof.Rows
/-! ### what the top has written, and the law's head (printed by gen4.py) -/
theorem all_mk {l : PySem.W.OpenLaw} {w : World} {K : PySem.W.Frag} {h : Heap} {mg : Str → Option Value} {fa : Addr} (X : K.In h) (G : h.Ns mainGlobals mg) (hfa : mg "law" = some (.ref fa))
    {f0 : Addr} {od0 an0 : Option Addr} {sl0 : Array (Option Value)} {oc0 kV0 dc0 pm0 cd0 ct0 : Value}
    {f1 : Addr} {od1 an1 : Option Addr} {sl1 : Array (Option Value)} {oc1 kV1 dc1 pm1 cd1 ct1 : Value}
    {f2 : Addr} {od2 an2 : Option Addr} {sl2 : Array (Option Value)} {oc2 kV2 dc2 pm2 cd2 ct2 : Value}
    {f3 : Addr} {od3 an3 : Option Addr} {sl3 : Array (Option Value)} {oc3 kV3 dc3 pm3 cd3 ct3 : Value}
    {f4 : Addr} {od4 an4 : Option Addr} {sl4 : Array (Option Value)} {oc4 kV4 dc4 pm4 cd4 ct4 : Value}
    {f5 : Addr} {od5 an5 : Option Addr} {sl5 : Array (Option Value)} {oc5 kV5 dc5 pm5 cd5 ct5 : Value}
    {f6 : Addr} {od6 an6 : Option Addr} {sl6 : Array (Option Value)} {oc6 kV6 dc6 pm6 cd6 ct6 : Value}
    {f7 : Addr} {od7 an7 : Option Addr} {sl7 : Array (Option Value)} {oc7 kV7 dc7 pm7 cd7 ct7 : Value}
    {f8 : Addr} {od8 an8 : Option Addr} {sl8 : Array (Option Value)} {oc8 kV8 dc8 pm8 cd8 ct8 : Value}
    {f9 : Addr} {od9 an9 : Option Addr} {sl9 : Array (Option Value)} {oc9 kV9 dc9 pm9 cd9 ct9 : Value}
    {f10 : Addr} {od10 an10 : Option Addr} {sl10 : Array (Option Value)} {oc10 kV10 dc10 pm10 cd10 ct10 : Value}
    {f11 : Addr} {od11 an11 : Option Addr} {sl11 : Array (Option Value)} {oc11 kV11 dc11 pm11 cd11 ct11 : Value}
    {f12 : Addr} {od12 an12 : Option Addr} {sl12 : Array (Option Value)} {oc12 kV12 dc12 pm12 cd12 ct12 : Value}
    {f13 : Addr} {od13 an13 : Option Addr} {sl13 : Array (Option Value)} {oc13 kV13 dc13 pm13 cd13 ct13 : Value}
    {f14 : Addr} {od14 an14 : Option Addr} {sl14 : Array (Option Value)} {oc14 kV14 dc14 pm14 cd14 ct14 : Value}
    {f15 : Addr} {od15 an15 : Option Addr} {sl15 : Array (Option Value)} {oc15 kV15 dc15 pm15 cd15 ct15 : Value}
    {f16 : Addr} {od16 an16 : Option Addr} {sl16 : Array (Option Value)} {oc16 kV16 dc16 pm16 cd16 ct16 : Value}
    {f17 : Addr} {od17 an17 : Option Addr} {sl17 : Array (Option Value)} {oc17 kV17 dc17 pm17 cd17 ct17 : Value}
    {f18 : Addr} {od18 an18 : Option Addr} {sl18 : Array (Option Value)} {oc18 kV18 dc18 pm18 cd18 ct18 : Value}
    {f19 : Addr} {od19 an19 : Option Addr} {sl19 : Array (Option Value)} {oc19 kV19 dc19 pm19 cd19 ct19 : Value}
    {f20 kD20 : Addr} {od20 an20 : Option Addr} {sl20 : Array (Option Value)} {oc20 dc20 pm20 cd20 ct20 : Value}
    {f21 : Addr} {od21 an21 : Option Addr} {sl21 : Array (Option Value)} {oc21 kV21 dc21 pm21 cd21 ct21 : Value}
    {f22 kD22 : Addr} {od22 an22 : Option Addr} {sl22 : Array (Option Value)} {oc22 dc22 pm22 cd22 ct22 : Value}
    {f23 : Addr} {od23 an23 : Option Addr} {sl23 : Array (Option Value)} {oc23 kV23 dc23 pm23 cd23 ct23 : Value}
    {f24 : Addr} {od24 an24 : Option Addr} {sl24 : Array (Option Value)} {oc24 kV24 dc24 pm24 cd24 ct24 : Value}
    {f25 : Addr} {od25 an25 : Option Addr} {sl25 : Array (Option Value)} {oc25 kV25 dc25 pm25 cd25 ct25 : Value}
    {f26 : Addr} {od26 an26 : Option Addr} {sl26 : Array (Option Value)} {oc26 kV26 dc26 pm26 ct26 : Value}
    {f27 : Addr} {od27 an27 : Option Addr} {sl27 : Array (Option Value)} {oc27 kV27 dc27 pm27 cd27 ct27 : Value}
    {f28 : Addr} {od28 an28 : Option Addr} {sl28 : Array (Option Value)} {oc28 kV28 dc28 pm28 cd28 ct28 : Value}
    {A_Ledger : Addr}
    {p6 : Addr} {rs6 : List Value}
    {p7 : Addr} {rs7 : List Value}
    {A_AbsentError A_Contradiction A_DifferentModes A_EchoError A_InvalidAccount A_InvalidBound A_InvalidCapacity A_InvalidMode A_InvalidNumber A_InvalidProgram A_InvalidReading A_InvalidRow A_InvalidTable A_InvalidText A_Lossy A_SizeError A_UnknownCommand : Addr}
    {xnm0 xq0 : Str} {xN0 : Addr} {xbs0 xbm0 xsb0 : List Value} {xsn0 : List Str} {xab0 : Bool} {xco0 : Option Bool} {xdd0 : Option Addr} {xk00 xk10 xk20 xk30 xk50 : Option Value}
    {cc0 tp0 : Addr} {qc0 : Value} {qd0 : Option Addr} {qv0 : Array Value} {qs0 : Array (Option Value)}
    (aC0 : PySem.W.nsIn K mainGlobals "Ledger" = some (some (.ref A_Ledger))) (pg0 : PySem.W.plainGet K A_Ledger Str.empty = true) (hd0 : PySem.W.hasDictIn K A_Ledger = true) (po0 : PySem.W.plainOver K A_Ledger = true) (sa0 : PySem.W.findIn K (.ref A_Ledger) "__setattr__" = some (some (.builtin "object.__setattr__"))) (mk0 : PySem.W.makesIn K A_Ledger = true) (kc0 : PySem.W.keepIn K (.ref A_Ledger) = true) (sf0 : PySem.W.selfFirst K A_Ledger = true)
    (nf0 : PySem.W.findIn K (.ref A_Ledger) "amounts" = some none)
    (xa0 : PySem.W.nsIn K mainGlobals "AbsentError" = some (some (.ref A_AbsentError)))
    (xa1 : PySem.W.nsIn K mainGlobals "Contradiction" = some (some (.ref A_Contradiction)))
    (xa2 : PySem.W.nsIn K mainGlobals "DifferentModes" = some (some (.ref A_DifferentModes)))
    (xa3 : PySem.W.nsIn K mainGlobals "EchoError" = some (some (.ref A_EchoError)))
    (xa4 : PySem.W.nsIn K mainGlobals "InvalidAccount" = some (some (.ref A_InvalidAccount)))
    (xa5 : PySem.W.nsIn K mainGlobals "InvalidBound" = some (some (.ref A_InvalidBound)))
    (xa6 : PySem.W.nsIn K mainGlobals "InvalidCapacity" = some (some (.ref A_InvalidCapacity)))
    (xa7 : PySem.W.nsIn K mainGlobals "InvalidMode" = some (some (.ref A_InvalidMode)))
    (xa8 : PySem.W.nsIn K mainGlobals "InvalidNumber" = some (some (.ref A_InvalidNumber)))
    (xa9 : PySem.W.nsIn K mainGlobals "InvalidProgram" = some (some (.ref A_InvalidProgram)))
    (xa10 : PySem.W.nsIn K mainGlobals "InvalidReading" = some (some (.ref A_InvalidReading)))
    (xa11 : PySem.W.nsIn K mainGlobals "InvalidRow" = some (some (.ref A_InvalidRow)))
    (xa12 : PySem.W.nsIn K mainGlobals "InvalidTable" = some (some (.ref A_InvalidTable)))
    (xa13 : PySem.W.nsIn K mainGlobals "InvalidText" = some (some (.ref A_InvalidText)))
    (xa14 : PySem.W.nsIn K mainGlobals "Lossy" = some (some (.ref A_Lossy)))
    (xa15 : PySem.W.nsIn K mainGlobals "SizeError" = some (some (.ref A_SizeError)))
    (xa16 : PySem.W.nsIn K mainGlobals "UnknownCommand" = some (some (.ref A_UnknownCommand)))
    (xl0 : K.lookup A_InvalidTable = some (excClassObj xnm0 xq0 A_InvalidTable xN0 xbs0 xbm0 true xsn0 xsb0 xab0 xco0 xdd0 xk00 xk10 xk20 xk30 xk50 "ValueError.__new__")) (rx0 : PySem.W.excTail [.type "ValueError", .type "Exception", .type "BaseException", .type "object"] xbm0 = true) (xs0 : PySem.W.findIn K (.ref A_InvalidTable) "__setattr__" = some (some (.builtin "object.__setattr__"))) (xi0 : PySem.W.findIn K (.ref A_InvalidTable) "__init__" = some (some (.ref f28))) (xj0 : PySem.W.typeIn K (.ref f28) = some (.type "function"))
    (xn0_0 : PySem.W.findIn K (.ref A_InvalidTable) "index" = some none)
    (xb0 : PySem.W.subIn K (.ref A_InvalidTable) (.type "BaseException") = some true)
    (xy0 : PySem.W.typeIn K (.ref A_InvalidTable) = some (.type "type")) (xk0 : PySem.W.keepIn K (.ref A_InvalidTable) = true)
    (vn : PySem.W.specialIn K (.builtin "object.__class__") "__get__" = some (some (.builtin "getset_descriptor.__get__"))) (vt : PySem.W.takesIn K (.builtin "object.__class__") = some true)
    (wb0 : PySem.W.subIn K (.ref A_EchoError) (.type "BaseException") = some true) (wd0 : PySem.W.hasDictIn K A_EchoError = true) (wy0 : PySem.W.typeIn K (.ref A_EchoError) = some (.type "type"))
    (wb1 : PySem.W.subIn K (.ref A_SizeError) (.type "BaseException") = some true) (wd1 : PySem.W.hasDictIn K A_SizeError = true) (wy1 : PySem.W.typeIn K (.ref A_SizeError) = some (.type "type"))
    (wb2 : PySem.W.subIn K (.ref A_AbsentError) (.type "BaseException") = some true) (wd2 : PySem.W.hasDictIn K A_AbsentError = true) (wy2 : PySem.W.typeIn K (.ref A_AbsentError) = some (.type "type"))
    (va0 : PySem.W.findIn K (.ref A_InvalidTable) "__getattribute__" = some (some (.builtin "BaseException.__getattribute__"))) (vg0 : PySem.W.findIn K (.ref A_InvalidTable) "__getattr__" = some none) (vd0 : PySem.W.hasDictIn K A_InvalidTable = true) (vc0 : PySem.W.findIn K (.ref A_InvalidTable) "__class__" = some (some (.builtin "object.__class__"))) (vm0 : PySem.W.mroIn K A_InvalidTable (.type "object") = some true)
    (ve0_0 : PySem.W.subIn K (.ref A_InvalidTable) (.ref A_EchoError) = some true) (ve0_1 : PySem.W.subIn K (.ref A_InvalidTable) (.ref A_SizeError) = some false) (ve0_2 : PySem.W.subIn K (.ref A_InvalidTable) (.ref A_AbsentError) = some false)
    (vk0_0 : PySem.W.kitOne K (.ref A_InvalidTable) (.ref A_AbsentError) = some false) (vk0_1 : PySem.W.kitOne K (.ref A_InvalidTable) (.ref A_Contradiction) = some false) (vk0_2 : PySem.W.kitOne K (.ref A_InvalidTable) (.ref A_DifferentModes) = some false) (vk0_3 : PySem.W.kitOne K (.ref A_InvalidTable) (.ref A_InvalidAccount) = some false) (vk0_4 : PySem.W.kitOne K (.ref A_InvalidTable) (.ref A_InvalidBound) = some false) (vk0_5 : PySem.W.kitOne K (.ref A_InvalidTable) (.ref A_InvalidCapacity) = some false) (vk0_6 : PySem.W.kitOne K (.ref A_InvalidTable) (.ref A_InvalidMode) = some false) (vk0_7 : PySem.W.kitOne K (.ref A_InvalidTable) (.ref A_InvalidNumber) = some false) (vk0_8 : PySem.W.kitOne K (.ref A_InvalidTable) (.ref A_InvalidProgram) = some false) (vk0_9 : PySem.W.kitOne K (.ref A_InvalidTable) (.ref A_InvalidReading) = some false) (vk0_10 : PySem.W.kitOne K (.ref A_InvalidTable) (.ref A_InvalidRow) = some false) (vk0_11 : PySem.W.kitOne K (.ref A_InvalidTable) (.ref A_InvalidTable) = some true) (vk0_12 : PySem.W.kitOne K (.ref A_InvalidTable) (.ref A_InvalidText) = some false) (vk0_13 : PySem.W.kitOne K (.ref A_InvalidTable) (.ref A_Lossy) = some false) (vk0_14 : PySem.W.kitOne K (.ref A_InvalidTable) (.ref A_SizeError) = some false) (vk0_15 : PySem.W.kitOne K (.ref A_InvalidTable) (.ref A_UnknownCommand) = some false) (vk0_16 : PySem.W.kitOne K (.ref A_InvalidTable) (.type "ValueError") = some true)
    (vf0_0 : PySem.W.findIn K (.ref A_InvalidTable) "index" = some none)
    (io_n : PySem.W.specialIn K (.builtin "object.__class__") "__get__" = some (some (.builtin "getset_descriptor.__get__"))) (io_t : PySem.W.takesIn K (.builtin "object.__class__") = some true)
    (io_a0 : PySem.W.findIn K (.ref A_Ledger) "__class__" = some (some (.builtin "object.__class__"))) (io_m0 : PySem.W.mroIn K A_Ledger (.type "object") = some true)
    (a0 : PySem.W.nsIn K mainGlobals "is_integer" = some (some (.ref f0))) (l0 : K.lookup f0 = some ⟨oc0, od0, .func (PySem.W.fnOf "is_integer" "is_integer" (defArgs s_is_integer) (defBody s_is_integer) (defScope s_is_integer) .none kV0 dc0 pm0 an0 cd0 ct0), sl0⟩) (c0 : PySem.W.codeIn K cd0 "is_integer" = true) (k0 : PySem.W.keepIn K (.ref f0) = true)
    (a1 : PySem.W.nsIn K mainGlobals "is_between" = some (some (.ref f1))) (l1 : K.lookup f1 = some ⟨oc1, od1, .func (PySem.W.fnOf "is_between" "is_between" (defArgs s_is_between) (defBody s_is_between) (defScope s_is_between) .none kV1 dc1 pm1 an1 cd1 ct1), sl1⟩) (c1 : PySem.W.codeIn K cd1 "is_between" = true) (k1 : PySem.W.keepIn K (.ref f1) = true)
    (a2 : PySem.W.nsIn K mainGlobals "needs" = some (some (.ref f2))) (l2 : K.lookup f2 = some ⟨oc2, od2, .func (PySem.W.fnOf "needs" "needs" (defArgs s_needs) (defBody s_needs) (defScope s_needs) .none kV2 dc2 pm2 an2 cd2 ct2), sl2⟩) (c2 : PySem.W.codeIn K cd2 "needs" = true) (k2 : PySem.W.keepIn K (.ref f2) = true)
    (a3 : PySem.W.nsIn K mainGlobals "need" = some (some (.ref f3))) (l3 : K.lookup f3 = some ⟨oc3, od3, .func (PySem.W.fnOf "need" "need" (defArgs s_need) (defBody s_need) (defScope s_need) .none kV3 dc3 pm3 an3 cd3 ct3), sl3⟩) (c3 : PySem.W.codeIn K cd3 "need" = true) (k3 : PySem.W.keepIn K (.ref f3) = true)
    (a4 : PySem.W.nsIn K mainGlobals "is_row" = some (some (.ref f4))) (l4 : K.lookup f4 = some ⟨oc4, od4, .func (PySem.W.fnOf "is_row" "is_row" (defArgs s_is_row) (defBody s_is_row) (defScope s_is_row) .none kV4 dc4 pm4 an4 cd4 ct4), sl4⟩) (c4 : PySem.W.codeIn K cd4 "is_row" = true) (k4 : PySem.W.keepIn K (.ref f4) = true)
    (a5_Ledger : PySem.W.findIn K (.ref A_Ledger) "__init__" = some (some (.ref f5))) (i5 : PySem.W.isFn K (.ref f5) = true) (j5 : PySem.W.fnIn K f5 = true) (l5 : K.lookup f5 = some ⟨oc5, od5, .func (PySem.W.fnOf "__init__" "Ledger.__init__" (defArgs s_Ledger___init__) (defBody s_Ledger___init__) (defScope s_Ledger___init__) .none kV5 dc5 pm5 an5 cd5 ct5), sl5⟩) (c5 : PySem.W.codeIn K cd5 "Ledger.__init__" = true) (k5 : PySem.W.keepIn K (.ref f5) = true)
    (a6_Ledger : PySem.W.findIn K (.ref A_Ledger) "rows" = some (some (.ref p6))) (pa6 : PySem.W.specialIn K (.ref p6) "__get__" = some (some (.builtin "property.__get__"))) (pb6 : PySem.W.takesIn K (.ref p6) = some true) (pc6 : PySem.W.recIn K p6 "property" = some (.ref f6 :: rs6)) (l6 : K.lookup f6 = some ⟨oc6, od6, .func (PySem.W.fnOf "rows" "Ledger.rows" (defArgs s_Ledger_rows) (defBody s_Ledger_rows) (defScope s_Ledger_rows) .none kV6 dc6 pm6 an6 cd6 ct6), sl6⟩) (c6 : PySem.W.codeIn K cd6 "Ledger.rows" = true) (k6 : PySem.W.keepIn K (.ref f6) = true)
    (a7_Ledger : PySem.W.findIn K (.ref A_Ledger) "greatest" = some (some (.ref p7))) (pa7 : PySem.W.specialIn K (.ref p7) "__get__" = some (some (.builtin "property.__get__"))) (pb7 : PySem.W.takesIn K (.ref p7) = some true) (pc7 : PySem.W.recIn K p7 "property" = some (.ref f7 :: rs7)) (l7 : K.lookup f7 = some ⟨oc7, od7, .func (PySem.W.fnOf "greatest" "Ledger.greatest" (defArgs s_Ledger_greatest) (defBody s_Ledger_greatest) (defScope s_Ledger_greatest) .none kV7 dc7 pm7 an7 cd7 ct7), sl7⟩) (c7 : PySem.W.codeIn K cd7 "Ledger.greatest" = true) (k7 : PySem.W.keepIn K (.ref f7) = true)
    (a8_Ledger : PySem.W.findIn K (.ref A_Ledger) "__getitem__" = some (some (.ref f8))) (i8 : PySem.W.isFn K (.ref f8) = true) (j8 : PySem.W.fnIn K f8 = true) (l8 : K.lookup f8 = some ⟨oc8, od8, .func (PySem.W.fnOf "__getitem__" "Ledger.__getitem__" (defArgs s_Ledger___getitem__) (defBody s_Ledger___getitem__) (defScope s_Ledger___getitem__) .none kV8 dc8 pm8 an8 cd8 ct8), sl8⟩) (c8 : PySem.W.codeIn K cd8 "Ledger.__getitem__" = true) (k8 : PySem.W.keepIn K (.ref f8) = true)
    (a9 : PySem.W.nsIn K mainGlobals "need_table" = some (some (.ref f9))) (l9 : K.lookup f9 = some ⟨oc9, od9, .func (PySem.W.fnOf "need_table" "need_table" (defArgs s_need_table) (defBody s_need_table) (defScope s_need_table) .none kV9 dc9 pm9 an9 cd9 ct9), sl9⟩) (c9 : PySem.W.codeIn K cd9 "need_table" = true) (k9 : PySem.W.keepIn K (.ref f9) = true)
    (a10 : PySem.W.nsIn K mainGlobals "is_broken" = some (some (.ref f10))) (l10 : K.lookup f10 = some ⟨oc10, od10, .func (PySem.W.fnOf "is_broken" "is_broken" (defArgs s_is_broken) (defBody s_is_broken) (defScope s_is_broken) .none kV10 dc10 pm10 an10 cd10 ct10), sl10⟩) (c10 : PySem.W.codeIn K cd10 "is_broken" = true) (k10 : PySem.W.keepIn K (.ref f10) = true)
    (a11 : PySem.W.nsIn K mainGlobals "broken_capacities" = some (some (.ref f11))) (l11 : K.lookup f11 = some ⟨oc11, od11, .func (PySem.W.fnOf "broken_capacities" "broken_capacities" (defArgs s_broken_capacities) (defBody s_broken_capacities) (defScope s_broken_capacities) .none kV11 dc11 pm11 an11 cd11 ct11), sl11⟩) (c11 : PySem.W.codeIn K cd11 "broken_capacities" = true) (k11 : PySem.W.keepIn K (.ref f11) = true)
    (a12 : PySem.W.nsIn K mainGlobals "first_broken" = some (some (.ref f12))) (l12 : K.lookup f12 = some ⟨oc12, od12, .func (PySem.W.fnOf "first_broken" "first_broken" (defArgs s_first_broken) (defBody s_first_broken) (defScope s_first_broken) .none kV12 dc12 pm12 an12 cd12 ct12), sl12⟩) (c12 : PySem.W.codeIn K cd12 "first_broken" = true) (k12 : PySem.W.keepIn K (.ref f12) = true)
    (a13 : PySem.W.nsIn K mainGlobals "rests_of" = some (some (.ref f13))) (l13 : K.lookup f13 = some ⟨oc13, od13, .func (PySem.W.fnOf "rests_of" "rests_of" (defArgs s_rests_of) (defBody s_rests_of) (defScope s_rests_of) .none kV13 dc13 pm13 an13 cd13 ct13), sl13⟩) (c13 : PySem.W.codeIn K cd13 "rests_of" = true) (k13 : PySem.W.keepIn K (.ref f13) = true)
    (a14 : PySem.W.nsIn K mainGlobals "rests" = some (some (.ref f14))) (l14 : K.lookup f14 = some ⟨oc14, od14, .func (PySem.W.fnOf "rests" "rests" (defArgs s_rests) (defBody s_rests) (defScope s_rests) .none kV14 dc14 pm14 an14 cd14 ct14), sl14⟩) (c14 : PySem.W.codeIn K cd14 "rests" = true) (k14 : PySem.W.keepIn K (.ref f14) = true)
    (a15 : PySem.W.nsIn K mainGlobals "told_ledger" = some (some (.ref f15))) (l15 : K.lookup f15 = some ⟨oc15, od15, .func (PySem.W.fnOf "told_ledger" "told_ledger" (defArgs s_told_ledger) (defBody s_told_ledger) (defScope s_told_ledger) .none kV15 dc15 pm15 an15 cd15 ct15), sl15⟩) (c15 : PySem.W.codeIn K cd15 "told_ledger" = true) (k15 : PySem.W.keepIn K (.ref f15) = true)
    (a16 : PySem.W.nsIn K mainGlobals "rising_capacities" = some (some (.ref f16))) (l16 : K.lookup f16 = some ⟨oc16, od16, .func (PySem.W.fnOf "rising_capacities" "rising_capacities" (defArgs s_rising_capacities) (defBody s_rising_capacities) (defScope s_rising_capacities) .none kV16 dc16 pm16 an16 cd16 ct16), sl16⟩) (c16 : PySem.W.codeIn K cd16 "rising_capacities" = true) (k16 : PySem.W.keepIn K (.ref f16) = true)
    (a17 : PySem.W.nsIn K mainGlobals "far_offsets" = some (some (.ref f17))) (l17 : K.lookup f17 = some ⟨oc17, od17, .func (PySem.W.fnOf "far_offsets" "far_offsets" (defArgs s_far_offsets) (defBody s_far_offsets) (defScope s_far_offsets) .none kV17 dc17 pm17 an17 cd17 ct17), sl17⟩) (c17 : PySem.W.codeIn K cd17 "far_offsets" = true) (k17 : PySem.W.keepIn K (.ref f17) = true)
    (a18 : PySem.W.nsIn K mainGlobals "least_written" = some (some (.ref f18))) (l18 : K.lookup f18 = some ⟨oc18, od18, .func (PySem.W.fnOf "least_written" "least_written" (defArgs s_least_written) (defBody s_least_written) (defScope s_least_written) .none kV18 dc18 pm18 an18 cd18 ct18), sl18⟩) (c18 : PySem.W.codeIn K cd18 "least_written" = true) (k18 : PySem.W.keepIn K (.ref f18) = true)
    (a19 : PySem.W.nsIn K mainGlobals "refusals" = some (some (.ref f19))) (l19 : K.lookup f19 = some ⟨oc19, od19, .func (PySem.W.fnOf "refusals" "refusals" (defArgs s_refusals) (defBody s_refusals) (defScope s_refusals) .none kV19 dc19 pm19 an19 cd19 ct19), sl19⟩) (c19 : PySem.W.codeIn K cd19 "refusals" = true) (k19 : PySem.W.keepIn K (.ref f19) = true)
    (a20 : PySem.W.nsIn K mainGlobals "judge_table" = some (some (.ref f20))) (l20 : K.lookup f20 = some ⟨oc20, od20, .func (PySem.W.fnOf "judge_table" "judge_table" (defArgs s_judge_table) (defBody s_judge_table) (defScope s_judge_table) .none (.ref kD20) dc20 pm20 an20 cd20 ct20), sl20⟩) (c20 : PySem.W.codeIn K cd20 "judge_table" = true) (k20 : PySem.W.keepIn K (.ref f20) = true)
    (e20_0 : PySem.W.nsIn K kD20 "lossless" = some (some (Value.bool false)))
    (a21 : PySem.W.nsIn K mainGlobals "is_account" = some (some (.ref f21))) (l21 : K.lookup f21 = some ⟨oc21, od21, .func (PySem.W.fnOf "is_account" "is_account" (defArgs s_is_account) (defBody s_is_account) (defScope s_is_account) .none kV21 dc21 pm21 an21 cd21 ct21), sl21⟩) (c21 : PySem.W.codeIn K cd21 "is_account" = true) (k21 : PySem.W.keepIn K (.ref f21) = true)
    (a22 : PySem.W.nsIn K mainGlobals "check_table" = some (some (.ref f22))) (l22 : K.lookup f22 = some ⟨oc22, od22, .func (PySem.W.fnOf "check_table" "check_table" (defArgs s_check_table) (defBody s_check_table) (defScope s_check_table) .none (.ref kD22) dc22 pm22 an22 cd22 ct22), sl22⟩) (c22 : PySem.W.codeIn K cd22 "check_table" = true) (k22 : PySem.W.keepIn K (.ref f22) = true)
    (e22_0 : PySem.W.nsIn K kD22 "lossless" = some (some (Value.bool false)))
    (a23 : PySem.W.nsIn K mainGlobals "_law_pen" = some (some (.ref f23))) (l23 : K.lookup f23 = some ⟨oc23, od23, .func (PySem.W.fnOf "_law_pen" "_law_pen" (defArgs s__law_pen) (defBody s__law_pen) (defScope s__law_pen) .none kV23 dc23 pm23 an23 cd23 ct23), sl23⟩) (c23 : PySem.W.codeIn K cd23 "_law_pen" = true) (k23 : PySem.W.keepIn K (.ref f23) = true)
    (a24 : PySem.W.nsIn K mainGlobals "_law_draw" = some (some (.ref f24))) (l24 : K.lookup f24 = some ⟨oc24, od24, .func (PySem.W.fnOf "_law_draw" "_law_draw" (defArgs s__law_draw) (defBody s__law_draw) (defScope s__law_draw) .none kV24 dc24 pm24 an24 cd24 ct24), sl24⟩) (c24 : PySem.W.codeIn K cd24 "_law_draw" = true) (k24 : PySem.W.keepIn K (.ref f24) = true)
    (a25 : PySem.W.nsIn K mainGlobals "_law_heard" = some (some (.ref f25))) (l25 : K.lookup f25 = some ⟨oc25, od25, .func (PySem.W.fnOf "_law_heard" "_law_heard" (defArgs s__law_heard) (defBody s__law_heard) (defScope s__law_heard) .none kV25 dc25 pm25 an25 cd25 ct25), sl25⟩) (c25 : PySem.W.codeIn K cd25 "_law_heard" = true) (k25 : PySem.W.keepIn K (.ref f25) = true)
    (a26 : PySem.W.nsIn K mainGlobals "_law_all_heard" = some (some (.ref f26))) (l26 : K.lookup f26 = some ⟨oc26, od26, .func (PySem.W.fnOf "_law_all_heard" "_law_all_heard" (defArgs s__law_all_heard) (defBody s__law_all_heard) (defScope s__law_all_heard) .none kV26 dc26 pm26 an26 (.ref cc0) ct26), sl26⟩) (c26 : PySem.W.codeIn K (.ref cc0) "_law_all_heard" = true) (k26 : PySem.W.keepIn K (.ref f26) = true) (ty0 : K.lookup cc0 = some ⟨qc0, qd0, .fields qv0, qs0⟩) (rv0 : qv0[11]? = some (.ref tp0)) (tn0 : K.lookup tp0 = none)
    (a27 : PySem.W.nsIn K mainGlobals "law" = some (some (.ref f27))) (l27 : K.lookup f27 = some ⟨oc27, od27, .func (PySem.W.fnOf "law" "law" (defArgs s_law) (defBody s_law) (defScope s_law) .none kV27 dc27 pm27 an27 cd27 ct27), sl27⟩) (c27 : PySem.W.codeIn K cd27 "law" = true) (k27 : PySem.W.keepIn K (.ref f27) = true)
    (l28 : K.lookup f28 = some ⟨oc28, od28, .func (PySem.W.fnOf "__init__" "InvalidTable.__init__" (defArgs s_InvalidTable___init__) (defBody s_InvalidTable___init__) (defScope s_InvalidTable___init__) .none kV28 dc28 pm28 an28 cd28 ct28), sl28⟩) (c28 : PySem.W.codeIn K cd28 "InvalidTable.__init__" = true) (k28 : PySem.W.keepIn K (.ref f28) = true)
    (z0 : PySem.W.nsIn K mainGlobals "ValueError" = some none)
    (z1 : PySem.W.nsIn K mainGlobals "abs" = some none)
    (z2 : PySem.W.nsIn K mainGlobals "bool" = some none)
    (z3 : PySem.W.nsIn K mainGlobals "enumerate" = some none)
    (z4 : PySem.W.nsIn K mainGlobals "int" = some none)
    (z5 : PySem.W.nsIn K mainGlobals "isinstance" = some none)
    (z6 : PySem.W.nsIn K mainGlobals "len" = some none)
    (z7 : PySem.W.nsIn K mainGlobals "list" = some none)
    (z8 : PySem.W.nsIn K mainGlobals "max" = some none)
    (z9 : PySem.W.nsIn K mainGlobals "min" = some none)
    (z10 : PySem.W.nsIn K mainGlobals "range" = some none)
    (z11 : PySem.W.nsIn K mainGlobals "repr" = some none)
    (z12 : PySem.W.nsIn K mainGlobals "sorted" = some none)
    (z13 : PySem.W.nsIn K mainGlobals "str" = some none)
    (z14 : PySem.W.nsIn K mainGlobals "sum" = some none)
    (z15 : PySem.W.nsIn K mainGlobals "tuple" = some none)
    {t0 : Tok} (g0 : PySem.W.nsIn K mainGlobals "ACCOUNT" = some (some (Value.str "account" t0)))
    {t1 : Tok} (g1 : PySem.W.nsIn K mainGlobals "BROKEN" = some (some (Value.str "broken" t1)))
    {t2 : Tok} (g2 : PySem.W.nsIn K mainGlobals "FAR" = some (some (Value.str "far" t2)))
    {t3 : Tok} (g3 : PySem.W.nsIn K mainGlobals "FEW" = some (some (Value.str "few" t3)))
    {t4 : Tok} (g4 : PySem.W.nsIn K mainGlobals "MOST_ENTRIES" = some (some (Value.int 400 t4)))
    {t5 : Tok} (g5 : PySem.W.nsIn K mainGlobals "MOST_ENTRY" = some (some (Value.int 1000000000000 t5)))
    {t6 : Tok} (g6 : PySem.W.nsIn K mainGlobals "MOST_OFFSET" = some (some (Value.int 1000000 t6)))
    {t7 : Tok} (g7 : PySem.W.nsIn K mainGlobals "RISES" = some (some (Value.str "rises" t7)))
    : LawT true l w K 13 63 "_law_script" mg fa ["_law_all_heard"] := by
  have e := hfa.symm.trans (PySem.W.mg_of X G a27)
  cases e
  let z : Ad := { Ledger := A_Ledger, AbsentError := A_AbsentError, Contradiction := A_Contradiction, DifferentModes := A_DifferentModes, EchoError := A_EchoError, InvalidAccount := A_InvalidAccount, InvalidBound := A_InvalidBound, InvalidCapacity := A_InvalidCapacity, InvalidMode := A_InvalidMode, InvalidNumber := A_InvalidNumber, InvalidProgram := A_InvalidProgram, InvalidReading := A_InvalidReading, InvalidRow := A_InvalidRow, InvalidTable := A_InvalidTable, InvalidText := A_InvalidText, Lossy := A_Lossy, SizeError := A_SizeError, UnknownCommand := A_UnknownCommand, t0 := tp0 }
  have xva_InvalidTable : XVal K A_InvalidTable := ⟨va0, vg0, xb0, vd0, vc0, vn, vt, vm0⟩
  have xq_0_0 : XVal K A_InvalidTable ∧ ∃ v u, ClsD (.ref A_AbsentError) v u ∧ PySem.W.kitOne K (.ref A_InvalidTable) u = some false := ⟨xva_InvalidTable, _, _, .own _, vk0_0⟩
  have xq_0_1 : XVal K A_InvalidTable ∧ ∃ v u, ClsD (.ref A_Contradiction) v u ∧ PySem.W.kitOne K (.ref A_InvalidTable) u = some false := ⟨xva_InvalidTable, _, _, .own _, vk0_1⟩
  have xq_0_2 : XVal K A_InvalidTable ∧ ∃ v u, ClsD (.ref A_DifferentModes) v u ∧ PySem.W.kitOne K (.ref A_InvalidTable) u = some false := ⟨xva_InvalidTable, _, _, .own _, vk0_2⟩
  have xq_0_3 : XVal K A_InvalidTable ∧ ∃ v u, ClsD (.ref A_InvalidAccount) v u ∧ PySem.W.kitOne K (.ref A_InvalidTable) u = some false := ⟨xva_InvalidTable, _, _, .own _, vk0_3⟩
  have xq_0_4 : XVal K A_InvalidTable ∧ ∃ v u, ClsD (.ref A_InvalidBound) v u ∧ PySem.W.kitOne K (.ref A_InvalidTable) u = some false := ⟨xva_InvalidTable, _, _, .own _, vk0_4⟩
  have xq_0_5 : XVal K A_InvalidTable ∧ ∃ v u, ClsD (.ref A_InvalidCapacity) v u ∧ PySem.W.kitOne K (.ref A_InvalidTable) u = some false := ⟨xva_InvalidTable, _, _, .own _, vk0_5⟩
  have xq_0_6 : XVal K A_InvalidTable ∧ ∃ v u, ClsD (.ref A_InvalidMode) v u ∧ PySem.W.kitOne K (.ref A_InvalidTable) u = some false := ⟨xva_InvalidTable, _, _, .own _, vk0_6⟩
  have xq_0_7 : XVal K A_InvalidTable ∧ ∃ v u, ClsD (.ref A_InvalidNumber) v u ∧ PySem.W.kitOne K (.ref A_InvalidTable) u = some false := ⟨xva_InvalidTable, _, _, .own _, vk0_7⟩
  have xq_0_8 : XVal K A_InvalidTable ∧ ∃ v u, ClsD (.ref A_InvalidProgram) v u ∧ PySem.W.kitOne K (.ref A_InvalidTable) u = some false := ⟨xva_InvalidTable, _, _, .own _, vk0_8⟩
  have xq_0_9 : XVal K A_InvalidTable ∧ ∃ v u, ClsD (.ref A_InvalidReading) v u ∧ PySem.W.kitOne K (.ref A_InvalidTable) u = some false := ⟨xva_InvalidTable, _, _, .own _, vk0_9⟩
  have xq_0_10 : XVal K A_InvalidTable ∧ ∃ v u, ClsD (.ref A_InvalidRow) v u ∧ PySem.W.kitOne K (.ref A_InvalidTable) u = some false := ⟨xva_InvalidTable, _, _, .own _, vk0_10⟩
  have xq_0_11 : XVal K A_InvalidTable ∧ ∃ v u, ClsD (.ref A_InvalidTable) v u ∧ PySem.W.kitOne K (.ref A_InvalidTable) u = some true := ⟨xva_InvalidTable, _, _, .own _, vk0_11⟩
  have xq_0_12 : XVal K A_InvalidTable ∧ ∃ v u, ClsD (.ref A_InvalidText) v u ∧ PySem.W.kitOne K (.ref A_InvalidTable) u = some false := ⟨xva_InvalidTable, _, _, .own _, vk0_12⟩
  have xq_0_13 : XVal K A_InvalidTable ∧ ∃ v u, ClsD (.ref A_Lossy) v u ∧ PySem.W.kitOne K (.ref A_InvalidTable) u = some false := ⟨xva_InvalidTable, _, _, .own _, vk0_13⟩
  have xq_0_14 : XVal K A_InvalidTable ∧ ∃ v u, ClsD (.ref A_SizeError) v u ∧ PySem.W.kitOne K (.ref A_InvalidTable) u = some false := ⟨xva_InvalidTable, _, _, .own _, vk0_14⟩
  have xq_0_15 : XVal K A_InvalidTable ∧ ∃ v u, ClsD (.ref A_UnknownCommand) v u ∧ PySem.W.kitOne K (.ref A_InvalidTable) u = some false := ⟨xva_InvalidTable, _, _, .own _, vk0_15⟩
  have xq_0_16 : XVal K A_InvalidTable ∧ ∃ v u, ClsD (.ty "ValueError") v u ∧ PySem.W.kitOne K (.ref A_InvalidTable) u = some true := ⟨xva_InvalidTable, _, _, .ty _, vk0_16⟩
  have T : Txt K mg z := ⟨⟨pg0, hd0, po0, sa0⟩, nf0, ⟨⟨pg0, hd0, po0, sa0⟩, io_a0, io_n, io_t, io_m0⟩, cst_ref (PySem.W.mg_of X G aC0), cst_ref (PySem.W.mg_of X G xa0), cst_ref (PySem.W.mg_of X G xa1), cst_ref (PySem.W.mg_of X G xa2), cst_ref (PySem.W.mg_of X G xa4), cst_ref (PySem.W.mg_of X G xa5), cst_ref (PySem.W.mg_of X G xa6), cst_ref (PySem.W.mg_of X G xa7), cst_ref (PySem.W.mg_of X G xa8), cst_ref (PySem.W.mg_of X G xa9), cst_ref (PySem.W.mg_of X G xa10), cst_ref (PySem.W.mg_of X G xa11), cst_ref (PySem.W.mg_of X G xa12), cst_ref (PySem.W.mg_of X G xa13), cst_ref (PySem.W.mg_of X G xa14), cst_ref (PySem.W.mg_of X G xa15), cst_ref (PySem.W.mg_of X G xa16), PySem.W.mg_of X G xa3, PySem.W.mg_of X G xa15, PySem.W.mg_of X G xa0, (fun C hC => by (try unfold errs at hC); (try unfold xtab at hC); simp only [List.mem_cons, List.not_mem_nil, or_false] at hC; rcases hC with rfl <;> first | exact exm3_of (PySem.W.exm_ref wb0 wd0 wy0 ve0_0) (PySem.W.exm_ref wb1 wd1 wy1 ve0_1) (PySem.W.exm_ref wb2 wd2 wy2 ve0_2) rfl), (fun C hC => by (try unfold errs at hC); (try unfold xtab at hC); simp only [List.mem_cons, List.not_mem_nil, or_false] at hC; rcases hC with rfl | rfl | rfl | rfl | rfl | rfl | rfl | rfl | rfl | rfl | rfl | rfl | rfl | rfl | rfl | rfl | rfl <;> first | exact xq_0_0 | exact xq_0_1 | exact xq_0_2 | exact xq_0_3 | exact xq_0_4 | exact xq_0_5 | exact xq_0_6 | exact xq_0_7 | exact xq_0_8 | exact xq_0_9 | exact xq_0_10 | exact xq_0_11 | exact xq_0_12 | exact xq_0_13 | exact xq_0_14 | exact xq_0_15 | exact xq_0_16), (fun C hC => by (try unfold errs at hC); (try unfold xtab at hC); simp only [List.mem_cons, List.not_mem_nil, or_false] at hC; rcases hC with rfl <;> first | exact ⟨xva_InvalidTable, vf0_0⟩), PySem.W.mg_none_of X G z0, PySem.W.mg_none_of X G z1, PySem.W.mg_none_of X G z2, PySem.W.mg_none_of X G z3, PySem.W.mg_none_of X G z4, PySem.W.mg_none_of X G z5, PySem.W.mg_none_of X G z6, PySem.W.mg_none_of X G z7, PySem.W.mg_none_of X G z8, PySem.W.mg_none_of X G z9, PySem.W.mg_none_of X G z10, PySem.W.mg_none_of X G z11, PySem.W.mg_none_of X G z12, PySem.W.mg_none_of X G z13, PySem.W.mg_none_of X G z14, PySem.W.mg_none_of X G z15, cst_str (PySem.W.mg_of X G g0), cst_str (PySem.W.mg_of X G g1), cst_str (PySem.W.mg_of X G g2), cst_str (PySem.W.mg_of X G g3), cst_int (PySem.W.mg_of X G g4), cst_int (PySem.W.mg_of X G g5), cst_int (PySem.W.mg_of X G g6), cst_str (PySem.W.mg_of X G g7)⟩
  have Fu0 := fun_mk (st := s_is_integer) l0 c0 k0
  have Fu1 := fun_mk (st := s_is_between) l1 c1 k1
  have Fu2 := fun_mk (st := s_needs) l2 c2 k2
  have Fu3 := fun_mk (st := s_need) l3 c3 k3
  have Fu4 := fun_mk (st := s_is_row) l4 c4 k4
  have Fu5 := fun_mk (st := s_Ledger___init__) l5 c5 k5
  have Fu6 := fun_mk (st := s_Ledger_rows) l6 c6 k6
  have Fu7 := fun_mk (st := s_Ledger_greatest) l7 c7 k7
  have Fu8 := fun_mk (st := s_Ledger___getitem__) l8 c8 k8
  have Fu9 := fun_mk (st := s_need_table) l9 c9 k9
  have Fu10 := fun_mk (st := s_is_broken) l10 c10 k10
  have Fu11 := fun_mk (st := s_broken_capacities) l11 c11 k11
  have Fu12 := fun_mk (st := s_first_broken) l12 c12 k12
  have Fu13 := fun_mk (st := s_rests_of) l13 c13 k13
  have Fu14 := fun_mk (st := s_rests) l14 c14 k14
  have Fu15 := fun_mk (st := s_told_ledger) l15 c15 k15
  have Fu16 := fun_mk (st := s_rising_capacities) l16 c16 k16
  have Fu17 := fun_mk (st := s_far_offsets) l17 c17 k17
  have Fu18 := fun_mk (st := s_least_written) l18 c18 k18
  have Fu19 := fun_mk (st := s_refusals) l19 c19 k19
  have Fu20 := fun_mk (st := s_judge_table) l20 c20 k20
  have Fu21 := fun_mk (st := s_is_account) l21 c21 k21
  have Fu22 := fun_mk (st := s_check_table) l22 c22 k22
  have Fu23 := fun_mk (st := s__law_pen) l23 c23 k23
  have Fu24 := fun_mk (st := s__law_draw) l24 c24 k24
  have Fu25 := fun_mk (st := s__law_heard) l25 c25 k25
  have Fu26 := fun_mk (st := s__law_all_heard) l26 c26 k26
  have Fu27 := fun_mk (st := s_law) l27 c27 k27
  have Fu28 := fun_mk (st := s_InvalidTable___init__) l28 c28 k28
  refine ⟨⟨PySem.W.fnOf "law" "law" (defArgs s_law) (defBody s_law) (defScope s_law) .none kV27 dc27 pm27 an27 cd27 ct27, S_law z, [("_law_all_heard", cc0, tp0, (("_law_all_heard" : Str) ++ ".<locals>." ++ "<lambda>"))], fun s v => .of_eq rfl, ?_, fun js h hl ht => law_at z js h hl (ht ("_law_all_heard", cc0, tp0, (("_law_all_heard" : Str) ++ ".<locals>." ++ "<lambda>")) (by simp)), by simp, fun base _ _ TBs => ?_⟩⟩
  · intro p hp
    simp only [List.mem_cons, List.not_mem_nil, or_false] at hp
    rcases hp with rfl
    · exact ⟨by simp, tabIn_of a26 l26 rfl ty0 rv0, tn0⟩
  have TB__law_all_heard : LamX.TabB base mg cc0 z.t0 := TBs ("_law_all_heard", cc0, tp0, (("_law_all_heard" : Str) ++ ".<locals>." ++ "<lambda>")) (by simp)
  have FC__law_all_heard := FunC.of Fu26 (cc := cc0) rfl
  have X_InvalidTable : XMk l.prog w K mg base "InvalidTable" z.InvalidTable 1 ["index"] := ⟨⟨f28, _, _, xi0, xj0, xinit1 (k := 0) Fu28 sc_InvalidTable___init__ (by first | exact Or.inl rfl | exact Or.inr (Or.inl rfl)) (by first | exact Or.inl rfl | exact Or.inr (Or.inl rfl)) rfl, Fu28.binds (ps := ["self", "index"]) fun _ _ _ _ _ _ us hl => match us, hl with | [_, _], _ => rfl⟩, ⟨⟨_, _, _, _, _, _, _, _, _, _, _, _, _, _, _, _, _, _, _, PySem.F.excBase_ValueError, xl0, rx0, PySem.F.store_ValueError.passes, by decide⟩, xs0, xb0, xy0, xk0⟩, PySem.W.mg_of X G xa12, by intro f hf; simp only [List.mem_cons, List.not_mem_nil, or_false] at hf; rcases hf with rfl <;> first | exact xn0_0, by decide⟩
  have G0 : FnG false l.prog w K mg base 1 f0 _ ["value"] (PK.S_is_integer z) := fng_of Fu0 sc_is_integer (PK.len_is_integer z) (PK.mo_is_integer z) (fun cdv A outer s H E c => d_is_integer T  cdv A outer s H E c) (PK.p_is_integer z)
  have C_is_integer : Cal false l.prog w K mg base "is_integer" 1 1 [] (fun ds _ => ds) (PK.S_is_integer z) := ⟨⟨f0, _, _, PySem.W.mg_of X G a0, k0, G0, (Bnd.plain fun us hl => match us, hl with | [_], _ => rfl)⟩⟩
  have G6 : FnG false l.prog w K mg base 1 f6 _ ["self"] (PL.S_Ledger_rows z) := fng_of Fu6 sc_Ledger_rows (PL.len_Ledger_rows z) (PL.mo_Ledger_rows z) (fun cdv A outer s H E c => d_Ledger_rows T  cdv A outer s H E c) (PL.p_Ledger_rows z)
  have R_Ledger_rows : PrpC l.prog w K mg base z.Ledger "rows" 1 (PL.S_Ledger_rows z) := ⟨T.k_Ledger, p6, f6, _, _, ⟨a6_Ledger, pa6, pb6, ⟨_, pc6⟩⟩, G6, Fu6.binds (ps := ["self"]) fun _ _ _ _ _ _ us hl => match us, hl with | [_], _ => rfl⟩
  have G7 : FnG false l.prog w K mg base 1 f7 _ ["self"] (PL.S_Ledger_greatest z) := fng_of Fu7 sc_Ledger_greatest (PL.len_Ledger_greatest z) (PL.mo_Ledger_greatest z) (fun cdv A outer s H E c => d_Ledger_greatest T  cdv A outer s H E c) (PL.p_Ledger_greatest z)
  have R_Ledger_greatest : PrpC l.prog w K mg base z.Ledger "greatest" 1 (PL.S_Ledger_greatest z) := ⟨T.k_Ledger, p7, f7, _, _, ⟨a7_Ledger, pa7, pb7, ⟨_, pc7⟩⟩, G7, Fu7.binds (ps := ["self"]) fun _ _ _ _ _ _ us hl => match us, hl with | [_], _ => rfl⟩
  have G8 : FnG false l.prog w K mg base 1 f8 _ ["self", "offset"] (PL.S_Ledger___getitem__ z) := fng_of Fu8 sc_Ledger___getitem__ (PL.len_Ledger___getitem__ z) (PL.mo_Ledger___getitem__ z) (fun cdv A outer s H E c => d_Ledger___getitem__ T  cdv A outer s H E c) (PL.p_Ledger___getitem__ z)
  have R_Ledger___getitem__ : IxC l.prog w K mg base z.Ledger 1 (PL.S_Ledger___getitem__ z) := ⟨⟨f8, a8_Ledger, j8, i8, frd_plain G8 (Bnd.plain fun us hl => match us, hl with | [_, _], _ => rfl)⟩, (PL.mo_Ledger___getitem__ z)⟩
  have G10 : FnG false l.prog w K mg base 1 f10 _ ["table", "capacity"] (PT.S_is_broken z) := fng_of Fu10 sc_is_broken (PT.len_is_broken z) (PT.mo_is_broken z) (fun cdv A outer s H E c => d_is_broken T  cdv A outer s H E c) (PT.p_is_broken z)
  have C_is_broken : Cal false l.prog w K mg base "is_broken" 1 2 [] (fun ds _ => ds) (PT.S_is_broken z) := ⟨⟨f10, _, _, PySem.W.mg_of X G a10, k10, G10, (Bnd.plain fun us hl => match us, hl with | [_, _], _ => rfl)⟩⟩
  have G13 : FnG false l.prog w K mg base 1 f13 _ ["table"] (PT.S_rests_of z) := fng_of Fu13 sc_rests_of (PT.len_rests_of z) (PT.mo_rests_of z) (fun cdv A outer s H E c => d_rests_of T  cdv A outer s H E c) (PT.p_rests_of z)
  have C_rests_of : Cal false l.prog w K mg base "rests_of" 1 1 [] (fun ds _ => ds) (PT.S_rests_of z) := ⟨⟨f13, _, _, PySem.W.mg_of X G a13, k13, G13, (Bnd.plain fun us hl => match us, hl with | [_], _ => rfl)⟩⟩
  have G23 : FnG false l.prog w K mg base 1 f23 _ ["_law_script"] (S__law_pen z) := fng_of Fu23 sc__law_pen (len__law_pen z) (mo__law_pen z) (fun cdv A outer s H E c => d__law_pen T  cdv A outer s H E c) (p__law_pen z)
  have C__law_pen : Cal false l.prog w K mg base "_law_pen" 1 1 [] (fun ds _ => ds) (S__law_pen z) := ⟨⟨f23, _, _, PySem.W.mg_of X G a23, k23, G23, (Bnd.plain fun us hl => match us, hl with | [_], _ => rfl)⟩⟩
  have G24 : FnG false l.prog w K mg base 1 f24 _ ["_law_pen_here", "_law_many"] (S__law_draw z) := fng_of Fu24 sc__law_draw (len__law_draw z) (mo__law_draw z) (fun cdv A outer s H E c => d__law_draw T  cdv A outer s H E c) (p__law_draw z)
  have C__law_draw : Cal false l.prog w K mg base "_law_draw" 1 2 [] (fun ds _ => ds) (S__law_draw z) := ⟨⟨f24, _, _, PySem.W.mg_of X G a24, k24, G24, (Bnd.plain fun us hl => match us, hl with | [_, _], _ => rfl)⟩⟩
  have H__law_heard : HCal l.prog w K mg base false "_law_heard" 0 (S__law_heard z) := ⟨⟨f25, _, s__law_heard, N__law_heard, "_law_ask", w__law_heard z, PySem.W.mg_of X G a25, Fu25, sc__law_heard, rfl, by first | exact Or.inl rfl | exact Or.inr (Or.inl rfl), by decide, by decide, fun s v => .of_eq rfl, fun d tl hm cdv A outer s H E c act => d__law_heard T  d tl cdv A outer s H E c act, p__law_heard z⟩, mo__law_heard z⟩
  have G1 : FnG false l.prog w K mg base 2 f1 _ ["value", "least", "most"] (PK.S_is_between z) := fng_of Fu1 sc_is_between (PK.len_is_between z) (PK.mo_is_between z) (fun cdv A outer s H E c => d_is_between T C_is_integer cdv A outer s H E c) (PK.p_is_between z)
  have C_is_between : Cal false l.prog w K mg base "is_between" 2 3 [] (fun ds _ => ds) (PK.S_is_between z) := ⟨⟨f1, _, _, PySem.W.mg_of X G a1, k1, G1, (Bnd.plain fun us hl => match us, hl with | [_, _, _], _ => rfl)⟩⟩
  have G11 : FnG false l.prog w K mg base 2 f11 _ ["table"] (PT.S_broken_capacities z) := fng_of Fu11 sc_broken_capacities (PT.len_broken_capacities z) (PT.mo_broken_capacities z) (fun cdv A outer s H E c => d_broken_capacities T C_is_broken cdv A outer s H E c) (PT.p_broken_capacities z)
  have C_broken_capacities : Cal false l.prog w K mg base "broken_capacities" 2 1 [] (fun ds _ => ds) (PT.S_broken_capacities z) := ⟨⟨f11, _, _, PySem.W.mg_of X G a11, k11, G11, (Bnd.plain fun us hl => match us, hl with | [_], _ => rfl)⟩⟩
  have G16 : FnG false l.prog w K mg base 2 f16 _ ["table"] (PT.S_rising_capacities z) := fng_of Fu16 sc_rising_capacities (PT.len_rising_capacities z) (PT.mo_rising_capacities z) (fun cdv A outer s H E c => d_rising_capacities T C_rests_of cdv A outer s H E c) (PT.p_rising_capacities z)
  have C_rising_capacities : Cal false l.prog w K mg base "rising_capacities" 2 1 [] (fun ds _ => ds) (PT.S_rising_capacities z) := ⟨⟨f16, _, _, PySem.W.mg_of X G a16, k16, G16, (Bnd.plain fun us hl => match us, hl with | [_], _ => rfl)⟩⟩
  have G2 : FnG false l.prog w K mg base 3 f2 _ ["ledger"] (PT.S_needs z) := fng_of Fu2 sc_needs (PT.len_needs z) (PT.mo_needs z) (fun cdv A outer s H E c => d_needs T R_Ledger___getitem__ R_Ledger_greatest cdv A outer s H E c) (PT.p_needs z)
  have C_needs : Cal false l.prog w K mg base "needs" 3 1 [] (fun ds _ => ds) (PT.S_needs z) := ⟨⟨f2, _, _, PySem.W.mg_of X G a2, k2, G2, (Bnd.plain fun us hl => match us, hl with | [_], _ => rfl)⟩⟩
  have G4 : FnG false l.prog w K mg base 3 f4 _ ["value"] (PL.S_is_row z) := fng_of Fu4 sc_is_row (PL.len_is_row z) (PL.mo_is_row z) (fun cdv A outer s H E c => d_is_row T C_is_between C_is_integer cdv A outer s H E c) (PL.p_is_row z)
  have C_is_row : Cal false l.prog w K mg base "is_row" 3 1 [] (fun ds _ => ds) (PL.S_is_row z) := ⟨⟨f4, _, _, PySem.W.mg_of X G a4, k4, G4, (Bnd.plain fun us hl => match us, hl with | [_], _ => rfl)⟩⟩
  have G9 : FnG false l.prog w K mg base 3 f9 _ ["table"] (PT.S_need_table z) := fng_of Fu9 sc_need_table (PT.len_need_table z) (PT.mo_need_table z) (fun cdv A outer s H E c => d_need_table T C_is_between X_InvalidTable cdv A outer s H E c) (PT.p_need_table z)
  have C_need_table : Cal false l.prog w K mg base "need_table" 3 1 [] (fun ds _ => ds) (PT.S_need_table z) := ⟨⟨f9, _, _, PySem.W.mg_of X G a9, k9, G9, (Bnd.plain fun us hl => match us, hl with | [_], _ => rfl)⟩⟩
  have G3 : FnG false l.prog w K mg base 4 f3 _ ["ledger"] (PT.S_need z) := fng_of Fu3 sc_need (PT.len_need z) (PT.mo_need z) (fun cdv A outer s H E c => d_need T C_needs cdv A outer s H E c) (PT.p_need z)
  have C_need : Cal false l.prog w K mg base "need" 4 1 [] (fun ds _ => ds) (PT.S_need z) := ⟨⟨f3, _, _, PySem.W.mg_of X G a3, k3, G3, (Bnd.plain fun us hl => match us, hl with | [_], _ => rfl)⟩⟩
  have G5 : FnRD l.prog w K mg base 4 f5 (starS 1 (PL.S_Ledger___init__ z)) := frd_star (ps := ["self"]) (pv := "rows") Fu5 sc_Ledger___init__ (PL.len_Ledger___init__ z) (PL.mo_Ledger___init__ z) (fun kV doc pm an cdv ct us rest hl => match us, rest, hl with | [_], [], _ => rfl | [_], _ :: _, _ => rfl) (fun cdv A outer s H E c => d_Ledger___init__ T C_is_row cdv A outer s H E c) (PL.p_Ledger___init__ z)
  have M_Ledger : MakC l.prog w K mg base "Ledger" z.Ledger 4 (starS 1 (PL.S_Ledger___init__ z)) := ⟨⟨f5, ⟨mk0, a5_Ledger, i5, kc0⟩, G5⟩, starS_mo (PL.mo_Ledger___init__ z), PySem.W.mg_of X G aC0⟩
  have G12 : FnG false l.prog w K mg base 4 f12 _ ["table"] (PT.S_first_broken z) := fng_of Fu12 sc_first_broken (PT.len_first_broken z) (PT.mo_first_broken z) (fun cdv A outer s H E c => d_first_broken T C_broken_capacities C_need_table cdv A outer s H E c) (PT.p_first_broken z)
  have C_first_broken : Cal false l.prog w K mg base "first_broken" 4 1 [] (fun ds _ => ds) (PT.S_first_broken z) := ⟨⟨f12, _, _, PySem.W.mg_of X G a12, k12, G12, (Bnd.plain fun us hl => match us, hl with | [_], _ => rfl)⟩⟩
  have G14 : FnG false l.prog w K mg base 4 f14 _ ["table"] (PT.S_rests z) := fng_of Fu14 sc_rests (PT.len_rests z) (PT.mo_rests z) (fun cdv A outer s H E c => d_rests T C_broken_capacities C_need_table C_rests_of cdv A outer s H E c) (PT.p_rests z)
  have C_rests_k_table : Cal false l.prog w K mg base "rests" 4 0 ["table"] (pickD [0]) (PT.S_rests z) := ⟨⟨f14, _, _, PySem.W.mg_of X G a14, k14, G14, Bnd.pick [0] (by decide) fun us ws h1 h2 => match us, ws, h1, h2 with | [], [_], _, _ => rfl⟩⟩
  have C_rests : Cal false l.prog w K mg base "rests" 4 1 [] (fun ds _ => ds) (PT.S_rests z) := ⟨⟨f14, _, _, PySem.W.mg_of X G a14, k14, G14, (Bnd.plain fun us hl => match us, hl with | [_], _ => rfl)⟩⟩
  have G15 : FnG false l.prog w K mg base 6 f15 _ ["table"] (PT.S_told_ledger z) := fng_of Fu15 sc_told_ledger (PT.len_told_ledger z) (PT.mo_told_ledger z) (fun cdv A outer s H E c => d_told_ledger T C_rests_of M_Ledger cdv A outer s H E c) (PT.p_told_ledger z)
  have C_told_ledger : Cal false l.prog w K mg base "told_ledger" 6 1 [] (fun ds _ => ds) (PT.S_told_ledger z) := ⟨⟨f15, _, _, PySem.W.mg_of X G a15, k15, G15, (Bnd.plain fun us hl => match us, hl with | [_], _ => rfl)⟩⟩
  have G17 : FnG false l.prog w K mg base 7 f17 _ ["table"] (PT.S_far_offsets z) := fng_of Fu17 sc_far_offsets (PT.len_far_offsets z) (PT.mo_far_offsets z) (fun cdv A outer s H E c => d_far_offsets T C_told_ledger R_Ledger_rows cdv A outer s H E c) (PT.p_far_offsets z)
  have C_far_offsets : Cal false l.prog w K mg base "far_offsets" 7 1 [] (fun ds _ => ds) (PT.S_far_offsets z) := ⟨⟨f17, _, _, PySem.W.mg_of X G a17, k17, G17, (Bnd.plain fun us hl => match us, hl with | [_], _ => rfl)⟩⟩
  have G18 : FnG false l.prog w K mg base 7 f18 _ ["table"] (PT.S_least_written z) := fng_of Fu18 sc_least_written (PT.len_least_written z) (PT.mo_least_written z) (fun cdv A outer s H E c => d_least_written T C_need C_told_ledger cdv A outer s H E c) (PT.p_least_written z)
  have C_least_written : Cal false l.prog w K mg base "least_written" 7 1 [] (fun ds _ => ds) (PT.S_least_written z) := ⟨⟨f18, _, _, PySem.W.mg_of X G a18, k18, G18, (Bnd.plain fun us hl => match us, hl with | [_], _ => rfl)⟩⟩
  have G21 : FnG false l.prog w K mg base 7 f21 _ ["table", "written", "ledger"] (PT.S_is_account z) := fng_of Fu21 sc_is_account (PT.len_is_account z) (PT.mo_is_account z) (fun cdv A outer s H E c => d_is_account T C_is_integer C_told_ledger cdv A outer s H E c) (PT.p_is_account z)
  have C_is_account : Cal false l.prog w K mg base "is_account" 7 3 [] (fun ds _ => ds) (PT.S_is_account z) := ⟨⟨f21, _, _, PySem.W.mg_of X G a21, k21, G21, (Bnd.plain fun us hl => match us, hl with | [_, _, _], _ => rfl)⟩⟩
  have G19 : FnG false l.prog w K mg base 8 f19 _ ["table", "lossless"] (PT.S_refusals z) := fng_of Fu19 sc_refusals (PT.len_refusals z) (PT.mo_refusals z) (fun cdv A outer s H E c => d_refusals T C_broken_capacities C_far_offsets C_least_written C_rising_capacities cdv A outer s H E c) (PT.p_refusals z)
  have C_refusals : Cal false l.prog w K mg base "refusals" 8 2 [] (fun ds _ => ds) (PT.S_refusals z) := ⟨⟨f19, _, _, PySem.W.mg_of X G a19, k19, G19, (Bnd.plain fun us hl => match us, hl with | [_, _], _ => rfl)⟩⟩
  have G20 : FnG false l.prog w K mg base 9 f20 _ ["table", "lossless"] (PT.S_judge_table z) := fng_of Fu20 sc_judge_table (PT.len_judge_table z) (PT.mo_judge_table z) (fun cdv A outer s H E c => d_judge_table T C_need_table C_refusals C_told_ledger cdv A outer s H E c) (PT.p_judge_table z)
  have C_judge_table_k_lossless_table : Cal false l.prog w K mg base "judge_table" 9 0 ["lossless", "table"] (pickD [1, 0]) (PT.S_judge_table z) := ⟨⟨f20, _, _, PySem.W.mg_of X G a20, k20, G20, Bnd.pick [1, 0] (by decide) fun us ws h1 h2 => match us, ws, h1, h2 with | [], [_, _], _, _ => rfl⟩⟩
  have C_judge_table_d : Cal false l.prog w K mg base "judge_table" 9 1 [] (pickE [.inl 0, .inr (.bl false)]) (PT.S_judge_table z) := ⟨⟨f20, _, _, PySem.W.mg_of X G a20, k20, G20, Bnd.dflt (d := .bl false) (v := .bl false) _ [some 0, none] e20_0 rfl (fun _ => .bl false) rfl (by decide) fun us ws h1 h2 => match us, ws, h1, h2 with | [_], [], _, _ => ⟨_, _, _, _, _, _, rfl, rfl, rfl⟩⟩⟩
  have G22 : FnG false l.prog w K mg base 9 f22 _ ["table", "value", "lossless"] (PT.S_check_table z) := fng_of Fu22 sc_check_table (PT.len_check_table z) (PT.mo_check_table z) (fun cdv A outer s H E c => d_check_table T C_is_account C_is_integer C_need_table C_refusals cdv A outer s H E c) (PT.p_check_table z)
  have C_check_table_d : Cal false l.prog w K mg base "check_table" 9 2 [] (pickE [.inl 0, .inl 1, .inr (.bl false)]) (PT.S_check_table z) := ⟨⟨f22, _, _, PySem.W.mg_of X G a22, k22, G22, Bnd.dflt (d := .bl false) (v := .bl false) _ [some 0, some 1, none] e22_0 rfl (fun _ => .bl false) rfl (by decide) fun us ws h1 h2 => match us, ws, h1, h2 with | [_, _], [], _, _ => ⟨_, _, _, _, _, _, rfl, rfl, rfl⟩⟩⟩
  have C_check_table_k_lossless : Cal false l.prog w K mg base "check_table" 9 2 ["lossless"] (pickD [0, 1, 2]) (PT.S_check_table z) := ⟨⟨f22, _, _, PySem.W.mg_of X G a22, k22, G22, Bnd.pick [0, 1, 2] (by decide) fun us ws h1 h2 => match us, ws, h1, h2 with | [_, _], [_], _, _ => rfl⟩⟩
  have G26 : FnG false l.prog w K mg base 12 f26 _ ["_law_thing"] (S__law_all_heard z) := fng_ofC FC__law_all_heard sc__law_all_heard (len__law_all_heard z) (mo__law_all_heard z) (fun A outer s H E c => d__law_all_heard T C_check_table_d C_check_table_k_lossless C_first_broken C_judge_table_k_lossless_table C_judge_table_d C_rests_k_table H__law_heard TB__law_all_heard A outer s H E c) (p__law_all_heard z)
  have C__law_all_heard : Cal false l.prog w K mg base "_law_all_heard" 12 1 [] (fun ds _ => ds) (S__law_all_heard z) := ⟨⟨f26, _, _, PySem.W.mg_of X G a26, k26, G26, (Bnd.plain fun us hl => match us, hl with | [_], _ => rfl)⟩⟩
  have G27 : FnG true l.prog w K mg base 13 fa _ ["_law_script"] (S_law z) := fng_of Fu27 sc_law (len_law z) (mo_law z) (fun cdv A outer s H E c => d_law T C__law_all_heard C__law_draw C__law_pen C_first_broken C_rests cdv A outer s H E c) (p_law z)
  exact G27
end K37
open PySem PySem.W PyProof.Rows
set_option maxRecDepth 100000 in
set_option maxHeartbeats 0 in
theorem PySem.Challenge.cw_forkecho_k37_what_is_no_table_holds : PySem.Challenge.rw_forkecho_k37_what_is_no_table.Holds := by
  w_on; o_law; k_head; (case hw => w_witness2)
  k_fill
  refine DL.dl_walkT (gz := true) (l := PySem.Challenge.rw_forkecho_k37_what_is_no_table) (n := 63) (k := 13) (x := "_law_script") (names := ["_law_all_heard"]) rfl (by decide) rfl ⟨rfl, by decide, by decide⟩ (fun w h Y => PySem.W.km_in_of Y) (by decide +kernel) ?F
  case F =>
    intro w mg fa h KX G hmg
    refine' K37.all_mk KX G hmg ?yaC0 ?ypg0 ?yhd0 ?ypo0 ?ysa0 ?ymk0 ?ykc0 ?ysf0 ?ynf0 ?yxa0 ?yxa1 ?yxa2 ?yxa3 ?yxa4 ?yxa5 ?yxa6 ?yxa7 ?yxa8 ?yxa9 ?yxa10 ?yxa11 ?yxa12 ?yxa13 ?yxa14 ?yxa15 ?yxa16 ?yxl0 ?yrx0 ?yxs0 ?yxi0 ?yxj0 ?yxn0_0 ?yxb0 ?yxy0 ?yxk0 ?yvn ?yvt ?ywb0 ?ywd0 ?ywy0 ?ywb1 ?ywd1 ?ywy1 ?ywb2 ?ywd2 ?ywy2 ?yva0 ?yvg0 ?yvd0 ?yvc0 ?yvm0 ?yve0_0 ?yve0_1 ?yve0_2 ?yvk0_0 ?yvk0_1 ?yvk0_2 ?yvk0_3 ?yvk0_4 ?yvk0_5 ?yvk0_6 ?yvk0_7 ?yvk0_8 ?yvk0_9 ?yvk0_10 ?yvk0_11 ?yvk0_12 ?yvk0_13 ?yvk0_14 ?yvk0_15 ?yvk0_16 ?yvf0_0 ?yio_n ?yio_t ?yio_a0 ?yio_m0 ?ya0 ?yl0 ?yc0 ?yk0 ?ya1 ?yl1 ?yc1 ?yk1 ?ya2 ?yl2 ?yc2 ?yk2 ?ya3 ?yl3 ?yc3 ?yk3 ?ya4 ?yl4 ?yc4 ?yk4 ?ya5_Ledger ?yi5 ?yj5 ?yl5 ?yc5 ?yk5 ?ya6_Ledger ?ypa6 ?ypb6 ?ypc6 ?yl6 ?yc6 ?yk6 ?ya7_Ledger ?ypa7 ?ypb7 ?ypc7 ?yl7 ?yc7 ?yk7 ?ya8_Ledger ?yi8 ?yj8 ?yl8 ?yc8 ?yk8 ?ya9 ?yl9 ?yc9 ?yk9 ?ya10 ?yl10 ?yc10 ?yk10 ?ya11 ?yl11 ?yc11 ?yk11 ?ya12 ?yl12 ?yc12 ?yk12 ?ya13 ?yl13 ?yc13 ?yk13 ?ya14 ?yl14 ?yc14 ?yk14 ?ya15 ?yl15 ?yc15 ?yk15 ?ya16 ?yl16 ?yc16 ?yk16 ?ya17 ?yl17 ?yc17 ?yk17 ?ya18 ?yl18 ?yc18 ?yk18 ?ya19 ?yl19 ?yc19 ?yk19 ?ya20 ?yl20 ?yc20 ?yk20 ?ye20_0 ?ya21 ?yl21 ?yc21 ?yk21 ?ya22 ?yl22 ?yc22 ?yk22 ?ye22_0 ?ya23 ?yl23 ?yc23 ?yk23 ?ya24 ?yl24 ?yc24 ?yk24 ?ya25 ?yl25 ?yc25 ?yk25 ?ya26 ?yl26 ?yc26 ?yk26 ?yty0 ?yrv0 ?ytn0 ?ya27 ?yl27 ?yc27 ?yk27 ?yl28 ?yc28 ?yk28 ?yz0 ?yz1 ?yz2 ?yz3 ?yz4 ?yz5 ?yz6 ?yz7 ?yz8 ?yz9 ?yz10 ?yz11 ?yz12 ?yz13 ?yz14 ?yz15 ?yg0 ?yg1 ?yg2 ?yg3 ?yg4 ?yg5 ?yg6 ?yg7
    (case yaC0 => k_is)
    (case ypg0 => k_is)
    (case yhd0 => k_is)
    (case ypo0 => k_is)
    (case ysa0 => k_is)
    (case ymk0 => k_is)
    (case ykc0 => k_is)
    (case ysf0 => k_is)
    (case ynf0 => k_is)
    (case yxa0 => k_is)
    (case yxa1 => k_is)
    (case yxa2 => k_is)
    (case yxa3 => k_is)
    (case yxa4 => k_is)
    (case yxa5 => k_is)
    (case yxa6 => k_is)
    (case yxa7 => k_is)
    (case yxa8 => k_is)
    (case yxa9 => k_is)
    (case yxa10 => k_is)
    (case yxa11 => k_is)
    (case yxa12 => k_is)
    (case yxa13 => k_is)
    (case yxa14 => k_is)
    (case yxa15 => k_is)
    (case yxa16 => k_is)
    (case yxl0 => k_is)
    (case yrx0 => rfl)
    (case yxs0 => k_is)
    (case yxi0 => k_is)
    (case yxj0 => k_is)
    (case yxn0_0 => k_is)
    (case yxb0 => k_is)
    (case yxy0 => k_is)
    (case yxk0 => k_is)
    (case yvn => k_is)
    (case yvt => k_is)
    (case ywb0 => k_is)
    (case ywd0 => k_is)
    (case ywy0 => k_is)
    (case ywb1 => k_is)
    (case ywd1 => k_is)
    (case ywy1 => k_is)
    (case ywb2 => k_is)
    (case ywd2 => k_is)
    (case ywy2 => k_is)
    (case yva0 => k_is)
    (case yvg0 => k_is)
    (case yvd0 => k_is)
    (case yvc0 => k_is)
    (case yvm0 => k_is)
    (case yve0_0 => k_is)
    (case yve0_1 => k_is)
    (case yve0_2 => k_is)
    (case yvk0_0 => kit_is)
    (case yvk0_1 => kit_is)
    (case yvk0_2 => kit_is)
    (case yvk0_3 => kit_is)
    (case yvk0_4 => kit_is)
    (case yvk0_5 => kit_is)
    (case yvk0_6 => kit_is)
    (case yvk0_7 => kit_is)
    (case yvk0_8 => kit_is)
    (case yvk0_9 => kit_is)
    (case yvk0_10 => kit_is)
    (case yvk0_11 => kit_is)
    (case yvk0_12 => kit_is)
    (case yvk0_13 => kit_is)
    (case yvk0_14 => kit_is)
    (case yvk0_15 => kit_is)
    (case yvk0_16 => kit_is)
    (case yvf0_0 => k_is)
    (case yio_n => k_is)
    (case yio_t => k_is)
    (case yio_a0 => k_is)
    (case yio_m0 => k_is)
    (case ya0 => k_is)
    (case yl0 => k_is)
    (case yc0 => k_is)
    (case yk0 => k_is)
    (case ya1 => k_is)
    (case yl1 => k_is)
    (case yc1 => k_is)
    (case yk1 => k_is)
    (case ya2 => k_is)
    (case yl2 => k_is)
    (case yc2 => k_is)
    (case yk2 => k_is)
    (case ya3 => k_is)
    (case yl3 => k_is)
    (case yc3 => k_is)
    (case yk3 => k_is)
    (case ya4 => k_is)
    (case yl4 => k_is)
    (case yc4 => k_is)
    (case yk4 => k_is)
    (case ya5_Ledger => k_is)
    (case yi5 => k_is)
    (case yj5 => k_is)
    (case yl5 => k_is)
    (case yc5 => k_is)
    (case yk5 => k_is)
    (case ya6_Ledger => k_is)
    (case ypa6 => k_is)
    (case ypb6 => k_is)
    (case ypc6 => k_is)
    (case yl6 => k_is)
    (case yc6 => k_is)
    (case yk6 => k_is)
    (case ya7_Ledger => k_is)
    (case ypa7 => k_is)
    (case ypb7 => k_is)
    (case ypc7 => k_is)
    (case yl7 => k_is)
    (case yc7 => k_is)
    (case yk7 => k_is)
    (case ya8_Ledger => k_is)
    (case yi8 => k_is)
    (case yj8 => k_is)
    (case yl8 => k_is)
    (case yc8 => k_is)
    (case yk8 => k_is)
    (case ya9 => k_is)
    (case yl9 => k_is)
    (case yc9 => k_is)
    (case yk9 => k_is)
    (case ya10 => k_is)
    (case yl10 => k_is)
    (case yc10 => k_is)
    (case yk10 => k_is)
    (case ya11 => k_is)
    (case yl11 => k_is)
    (case yc11 => k_is)
    (case yk11 => k_is)
    (case ya12 => k_is)
    (case yl12 => k_is)
    (case yc12 => k_is)
    (case yk12 => k_is)
    (case ya13 => k_is)
    (case yl13 => k_is)
    (case yc13 => k_is)
    (case yk13 => k_is)
    (case ya14 => k_is)
    (case yl14 => k_is)
    (case yc14 => k_is)
    (case yk14 => k_is)
    (case ya15 => k_is)
    (case yl15 => k_is)
    (case yc15 => k_is)
    (case yk15 => k_is)
    (case ya16 => k_is)
    (case yl16 => k_is)
    (case yc16 => k_is)
    (case yk16 => k_is)
    (case ya17 => k_is)
    (case yl17 => k_is)
    (case yc17 => k_is)
    (case yk17 => k_is)
    (case ya18 => k_is)
    (case yl18 => k_is)
    (case yc18 => k_is)
    (case yk18 => k_is)
    (case ya19 => k_is)
    (case yl19 => k_is)
    (case yc19 => k_is)
    (case yk19 => k_is)
    (case ya20 => k_is)
    (case yl20 => k_is)
    (case yc20 => k_is)
    (case yk20 => k_is)
    (case ye20_0 => k_is)
    (case ya21 => k_is)
    (case yl21 => k_is)
    (case yc21 => k_is)
    (case yk21 => k_is)
    (case ya22 => k_is)
    (case yl22 => k_is)
    (case yc22 => k_is)
    (case yk22 => k_is)
    (case ye22_0 => k_is)
    (case ya23 => k_is)
    (case yl23 => k_is)
    (case yc23 => k_is)
    (case yk23 => k_is)
    (case ya24 => k_is)
    (case yl24 => k_is)
    (case yc24 => k_is)
    (case yk24 => k_is)
    (case ya25 => k_is)
    (case yl25 => k_is)
    (case yc25 => k_is)
    (case yk25 => k_is)
    (case ya26 => k_is)
    (case yl26 => k_is)
    (case yc26 => k_is)
    (case yk26 => k_is)
    (case yty0 => k_is)
    (case yrv0 => rfl)
    (case ytn0 => kernel_rfl)
    (case ya27 => k_is)
    (case yl27 => k_is)
    (case yc27 => k_is)
    (case yk27 => k_is)
    (case yl28 => k_is)
    (case yc28 => k_is)
    (case yk28 => k_is)
    (case yz0 => k_is)
    (case yz1 => k_is)
    (case yz2 => k_is)
    (case yz3 => k_is)
    (case yz4 => k_is)
    (case yz5 => k_is)
    (case yz6 => k_is)
    (case yz7 => k_is)
    (case yz8 => k_is)
    (case yz9 => k_is)
    (case yz10 => k_is)
    (case yz11 => k_is)
    (case yz12 => k_is)
    (case yz13 => k_is)
    (case yz14 => k_is)
    (case yz15 => k_is)
    (case yg0 => k_is)
    (case yg1 => k_is)
    (case yg2 => k_is)
    (case yg3 => k_is)
    (case yg4 => k_is)
    (case yg5 => k_is)
    (case yg6 => k_is)
    (case yg7 => k_is)
#print axioms PySem.Challenge.cw_forkecho_k37_what_is_no_table_holds
