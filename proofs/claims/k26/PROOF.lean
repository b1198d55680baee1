import PyProof.Rows.All
import Wide.All
import OpenK.AllK
import Wide.FinOn
import PyProof.EqAt
import PyProof.EqKinds
import PyProof.TupleCall
import HandS.ForMost
import HandS.ForExc
import HandS.Lambda
import HandS.TupAny
import HandS.TupMul
import HandS.Wide
import HandS.IsInst
import HandS.SortInts
import HandS.DictComp
import HandS.Zip
import HandS.Style
import HandS.SortRule
import HandS.Conv
import HandS.Codes
import HandS.DictTup
import KE.GoesEnum
import KE.GoesMore
import HandS.Iter
import HandS.Ends
import KE.KStateDown
import HandS.Head0
import HandS.Head1
import HandS.Head2
import HandS.HeadHook1
import HandS.HeadHook2
import HandS.ExcInit
import HandS.ExcField
import HandS.ExcIs
import HandS.ExcOwn
import KE.KExcInit
import HandS.EndBits
import HandS.EndTab
import KE.KNest
import KE.KUnpackStar
import HandS.More
import HandS.Defaults
import HandS.Star
import HandS.Property
import HandS.SlotsOwn
import KE.KOpsOwn
import HandS.Flow
import HandS.ListItems
import KE.KItemsList
import KE.KEqNest
import HandS.SortKw
import KE.DataMinMax
import PyProof.RulesMatch
import HandS.ClsMeth
import HandS.DictSub
import HandS.NamedTupGet
import HandS.OwnEq
import PyProof.InstNe
import HandS.SetFor
import KE.KExcIs
import PySem.Challenge.RW_forkecho_k26_ledgers_added_and_moved
set_option Elab.async false
set_option linter.all false
set_option maxRecDepth 100000
set_option maxHeartbeats 4000000
namespace DL
open PySem PySem.Spec L2
/-! ### data: values as trees; what may be changed is a ref -/
inductive D where
  | non | bl (b : Bool) | int (i : Int) | str (s : Str) | ref (a : Addr) | ty (n : String)
  | tup (xs : List D) | tpl (xs : List D) | lst (xs : List D) | lk (xs : List D) | ob (C : Addr) (fs : List (Str × D)) | xob (C : Addr) (fs : List (Str × D)) | lam (f c : Addr) (q : Str) (ρ : List (Option D)) (σ : List (Option V)) | dK (kvs : List (Key × D)) | dT (kvs : List (List Key × D))
/-- an object that may change -/
inductive AO where
  | lst (xs : List D) | dK (kvs : List (Key × D)) | dT (kvs : List (List Key × D)) | ins (C : Addr) (fs : List (Str × D)) | lck (xs : List D) | tab (q : Str) | lckK (o : Obj) (kvs : List (Key × D))
abbrev AH := Addr → Option AO
def up (h : AH) (a : Addr) (o : AO) : AH := fun b => if b = a then some o else h b
@[simp] theorem up_same {h : AH} {a : Addr} {o : AO} : up h a o a = some o := by simp [up]
theorem up_ne {h : AH} {a b : Addr} {o : AO} (e : b ≠ a) : up h a o b = h b := by simp [up, e]
@[simp] theorem up_up {h : AH} {a : Addr} {o u : AO} : up (up h a o) a u = up h a u := by
  funext b; unfold up; split <;> rfl
/-- Sub g h: g is a part of h -/
def Sub (g h : AH) : Prop := ∀ a o, g a = some o → h a = some o
theorem Sub.refl (h : AH) : Sub h h := fun _ _ e => e
theorem Sub.trans {f g h : AH} (a : Sub f g) (b : Sub g h) : Sub f h := fun c o e => b c o (a c o e)
theorem sub_up {h : AH} {p : Addr} {o : AO} (e : h p = none) : Sub h (up h p o) := fun a u q => by
  rw [up_ne]; exact q
  rintro rfl; rw [e] at q; cases q
/-- an exception that is kept: its class, its dict -/
def exV (a C : Addr) (d : Option Addr) : HO := .ext fun h => ∃ (oe : Obj) (vs : Array Value), h.get? a = some oe ∧ Zc (.ref C) d oe ∧ oe.data = .fields vs
mutual
inductive Rep (K : PySem.W.Frag) (F : Hp) : D → V → Prop where
  | non : Rep K F .non .non
  | bl (b : Bool) : Rep K F (.bl b) (.bl b)
  | int (i : Int) : Rep K F (.int i) (.int i)
  | str (s : Str) : Rep K F (.str s) (.str s)
  | ref (a : Addr) : Rep K F (.ref a) (.ref a)
  | ty (n : String) : Rep K F (.ty n) (.ty n)
  | tup {a : Addr} {xs : List D} {vs : List V} (h : SqT K F a vs) (r : Reps K F xs vs) : Rep K F (.tup xs) (.ref a)
  | tpl {a : Addr} {ob : Obj} {xs : List D} {vs : List V} (h : F a = some (.frz ob (.tup vs))) (hd : ob.dict = none) (r : Reps K F xs vs) : Rep K F (.tpl xs) (.ref a)
  | lst {a : Addr} {xs : List D} {vs : List V} (h : F a = some (.lst vs)) (r : Reps K F xs vs) : Rep K F (.lst xs) (.ref a)
  | lk {a : Addr} {xs : List D} {vs : List V} (h : SqL K F a vs) (r : Reps K F xs vs) : Rep K F (.lk xs) (.ref a)
  | dK {a : Addr} {xs : List (Key × D)} {vs : List (Key × V)} (h : F a = some (.dK vs)) (r : RepK K F xs vs) : Rep K F (.dK xs) (.ref a)
  | dT {a : Addr} {xs : List (List Key × D)} {vs : List (List Key × V)} (h : F a = some (.dT vs)) (r : RepT K F xs vs) : Rep K F (.dT xs) (.ref a)
  | ob {a C : Addr} {dx : Addr} {xs : List (Str × D)} {vs : List (Str × V)} (h : F a = some (.ins C dx vs)) (r : RepF K F xs vs) : Rep K F (.ob C xs) (.ref a)
  | xob0 {a C : Addr} (h : F a = some (exV a C none)) : Rep K F (.xob C []) (.ref a)
  | xob {a C dx : Addr} {xs : List (Str × D)} {vs : List (Str × V)} (h : F a = some (exV a C (some dx))) (hd : F dx = some (.xd vs)) (r : RepF K F xs vs) : Rep K F (.xob C xs) (.ref a)
  | lam {f c : Addr} {q : Str} {ρ : List (Option D)} {σ : List (Option V)} (h : F c = some (LamX.CodeO c q)) (r : RepE K F ρ σ) : Rep K F (.lam f c q ρ σ) (.ref f)
inductive Reps (K : PySem.W.Frag) (F : Hp) : List D → List V → Prop where
  | nil : Reps K F [] []
  | cons {x : D} {v : V} {xs : List D} {vs : List V} (h : Rep K F x v) (t : Reps K F xs vs) : Reps K F (x :: xs) (v :: vs)
inductive RepK (K : PySem.W.Frag) (F : Hp) : List (Key × D) → List (Key × V) → Prop where
  | nil : RepK K F [] []
  | cons {k : Key} {x : D} {v : V} {xs : List (Key × D)} {vs : List (Key × V)} (h : Rep K F x v) (t : RepK K F xs vs) : RepK K F ((k, x) :: xs) ((k, v) :: vs)
inductive RepT (K : PySem.W.Frag) (F : Hp) : List (List Key × D) → List (List Key × V) → Prop where
  | nil : RepT K F [] []
  | cons {k : List Key} {x : D} {v : V} {xs : List (List Key × D)} {vs : List (List Key × V)} (h : Rep K F x v) (t : RepT K F xs vs) : RepT K F ((k, x) :: xs) ((k, v) :: vs)
inductive RepE (K : PySem.W.Frag) (F : Hp) : List (Option D) → List (Option V) → Prop where
  | nil : RepE K F [] []
  | none {ρ : List (Option D)} {σ : List (Option V)} {v : Option V} (t : RepE K F ρ σ) : RepE K F (none :: ρ) (v :: σ)
  | cons {d : D} {v : V} {ρ : List (Option D)} {σ : List (Option V)} (h : Rep K F d v) (t : RepE K F ρ σ) : RepE K F (some d :: ρ) (some v :: σ)
inductive RepF (K : PySem.W.Frag) (F : Hp) : List (Str × D) → List (Str × V) → Prop where
  | nil : RepF K F [] []
  | cons {k : Str} {x : D} {v : V} {xs : List (Str × D)} {vs : List (Str × V)} (h : Rep K F x v) (t : RepF K F xs vs) : RepF K F ((k, x) :: xs) ((k, v) :: vs)
end
def Ext (F F' : Hp) : Prop := ∀ a o, F a = some o → F' a = some o
theorem Ext.refl (F : Hp) : Ext F F := fun _ _ e => e
theorem Ext.trans {F G H : Hp} (a : Ext F G) (b : Ext G H) : Ext F H := fun c o e => b c o (a c o e)
theorem ext_upd {F : Hp} {p : Addr} {o : HO} (e : F p = none) : Ext F (upd F p o) := fun a u q => by
  rw [upd_ne]; exact q
  rintro rfl; rw [e] at q; cases q
theorem Ext.sqt {K : PySem.W.Frag} {F F' : Hp} {a : Addr} {vs : List V} (e : Ext F F') (h : SqT K F a vs) : SqT K F' a vs := by
  rcases h with (h | ⟨o, h⟩) | h
  · exact .inl (.inl (e _ _ h))
  · exact .inl (.inr ⟨o, e _ _ h⟩)
  · exact .inr h
theorem Ext.sql {K : PySem.W.Frag} {F F' : Hp} {a : Addr} {vs : List V} (e : Ext F F') (h : SqL K F a vs) : SqL K F' a vs := by
  rcases h with (h | ⟨o, h⟩) | h
  · exact .inl (.inl (e _ _ h))
  · exact .inl (.inr ⟨o, e _ _ h⟩)
  · exact .inr h
section
variable {K : PySem.W.Frag} {F F' : Hp}
mutual
theorem Rep.ext (e : Ext F F') : ∀ {x : D} {v : V}, Rep K F x v → Rep K F' x v
  | _, _, .non => .non
  | _, _, .bl b => .bl b
  | _, _, .int i => .int i
  | _, _, .str s => .str s
  | _, _, .ref a => .ref a
  | _, _, .ty n => .ty n
  | _, _, .tup h r => .tup (e.sqt h) (Reps.ext e r)
  | _, _, .tpl h hd r => .tpl (e _ _ h) hd (Reps.ext e r)
  | _, _, .lst h r => .lst (e _ _ h) (Reps.ext e r)
  | _, _, .lk h r => .lk (e.sql h) (Reps.ext e r)
  | _, _, .dK h r => .dK (e _ _ h) (RepK.ext e r)
  | _, _, .dT h r => .dT (e _ _ h) (RepT.ext e r)
  | _, _, .ob h r => .ob (e _ _ h) (RepF.ext e r)
  | _, _, .xob0 h => .xob0 (e _ _ h)
  | _, _, .xob h hd r => .xob (e _ _ h) (e _ _ hd) (RepF.ext e r)
  | _, _, .lam h r => .lam (e _ _ h) (RepE.ext e r)
theorem Reps.ext (e : Ext F F') : ∀ {xs : List D} {vs : List V}, Reps K F xs vs → Reps K F' xs vs
  | _, _, .nil => .nil
  | _, _, .cons h t => .cons (Rep.ext e h) (Reps.ext e t)
theorem RepK.ext (e : Ext F F') : ∀ {xs : List (Key × D)} {vs : List (Key × V)}, RepK K F xs vs → RepK K F' xs vs
  | _, _, .nil => .nil
  | _, _, .cons h t => .cons (Rep.ext e h) (RepK.ext e t)
theorem RepT.ext (e : Ext F F') : ∀ {xs : List (List Key × D)} {vs : List (List Key × V)}, RepT K F xs vs → RepT K F' xs vs
  | _, _, .nil => .nil
  | _, _, .cons h t => .cons (Rep.ext e h) (RepT.ext e t)
theorem RepE.ext (e : Ext F F') : ∀ {xs : List (Option D)} {vs : List (Option V)}, RepE K F xs vs → RepE K F' xs vs
  | _, _, .nil => .nil
  | _, _, .none t => .none (RepE.ext e t)
  | _, _, .cons h t => .cons (Rep.ext e h) (RepE.ext e t)
theorem RepF.ext (e : Ext F F') : ∀ {xs : List (Str × D)} {vs : List (Str × V)}, RepF K F xs vs → RepF K F' xs vs
  | _, _, .nil => .nil
  | _, _, .cons h t => .cons (Rep.ext e h) (RepF.ext e t)
end
theorem Reps.length : ∀ {xs : List D} {vs : List V}, Reps K F xs vs → xs.length = vs.length
  | _, _, .nil => rfl
  | _, _, .cons _ t => by simp [Reps.length t]
theorem Reps.append : ∀ {xs ys : List D} {vs ws : List V}, Reps K F xs vs → Reps K F ys ws → Reps K F (xs ++ ys) (vs ++ ws)
  | _, _, _, _, .nil, s => s
  | _, _, _, _, .cons h t, s => .cons h (Reps.append t s)
theorem Reps.get : ∀ {xs : List D} {vs : List V} {i : Nat} {x : D}, Reps K F xs vs → xs[i]? = some x → ∃ v, vs[i]? = some v ∧ Rep K F x v
  | _, _, _, _, .nil, e => by simp at e
  | _, _, 0, _, .cons h _, e => by simp at e; subst e; exact ⟨_, rfl, h⟩
  | _, _, i + 1, x, .cons _ t, e => by
    obtain ⟨v, h1, h2⟩ := Reps.get (i := i) (x := x) t (by simpa using e)
    exact ⟨v, by simpa using h1, h2⟩
theorem Reps.set {x : D} {v : V} (r : Rep K F x v) : ∀ {xs : List D} {vs : List V} (i : Nat), Reps K F xs vs → Reps K F (xs.set i x) (vs.set i v)
  | _, _, _, .nil => .nil
  | _, _, 0, .cons _ t => .cons r t
  | _, _, i + 1, .cons q t => .cons q (Reps.set r i t)
theorem Reps.take : ∀ {xs : List D} {vs : List V} (n : Nat), Reps K F xs vs → Reps K F (xs.take n) (vs.take n)
  | _, _, 0, _ => .nil
  | _, _, _ + 1, .nil => .nil
  | _, _, n + 1, .cons r t => .cons r (Reps.take n t)
theorem Reps.drop : ∀ {xs : List D} {vs : List V} (n : Nat), Reps K F xs vs → Reps K F (xs.drop n) (vs.drop n)
  | _, _, 0, r => r
  | _, _, _ + 1, .nil => .nil
  | _, _, n + 1, .cons _ t => Reps.drop n t
end
def RepO (K : PySem.W.Frag) (F : Hp) : AO → HO → Prop
  | .lst xs, u => ∃ vs, u = .lst vs ∧ Reps K F xs vs
  | .dK kvs, u => ∃ vs, u = .dK vs ∧ RepK K F kvs vs
  | .dT kvs, u => ∃ vs, u = .dT vs ∧ RepT K F kvs vs
  | .ins C fs, u => ∃ dx vs, u = .ins C dx vs ∧ RepF K F fs vs
  | .lck xs, u => ∃ o vs, u = .frz o (.lst vs) ∧ Reps K F xs vs
  | .lckK o kvs, u => ∃ vs, u = .frz o (.dK vs) ∧ RepK K F kvs vs
  | .tab q, u => ∃ ps : Array Value, u = .tbl ps ∧ TriplesOk ps.toList ∧ ∀ (pos : Pos) (cv : Value), codeAmong pos ps.toList = some cv → ∃ c, cv = .ref c ∧ F c = some (LamX.CodeO c q)
theorem RepO.ext {K : PySem.W.Frag} {F F' : Hp} (e : Ext F F') : ∀ {o : AO} {u : HO}, RepO K F o u → RepO K F' o u
  | .lst _, _, ⟨vs, a, r⟩ => ⟨vs, a, r.ext e⟩
  | .dK _, _, ⟨vs, a, r⟩ => ⟨vs, a, r.ext e⟩
  | .dT _, _, ⟨vs, a, r⟩ => ⟨vs, a, r.ext e⟩
  | .ins _ _, _, ⟨dx, vs, a, r⟩ => ⟨dx, vs, a, r.ext e⟩
  | .lck _, _, ⟨o, vs, a, r⟩ => ⟨o, vs, a, r.ext e⟩
  | .lckK _ _, _, ⟨vs, a, r⟩ => ⟨vs, a, r.ext e⟩
  | .tab _, _, ⟨ps, a, t, r⟩ => ⟨ps, a, t, fun pos cv z => let ⟨c, e1, e2⟩ := r pos cv z; ⟨c, e1, e _ _ e2⟩⟩
structure Sim (K : PySem.W.Frag) (F : Hp) (h : AH) (H : Hp) : Prop where
  fz : ∀ a o, F a = some o → H a = some o
  ob : ∀ a o, h a = some o → F a = none ∧ ∃ u, H a = some u ∧ RepO K F o u
section
variable {K : PySem.W.Frag} {F : Hp} {h g : AH} {H : Hp} {p : Addr}
theorem Sim.sub (S : Sim K F h H) (s : Sub g h) : Sim K F g H := ⟨S.fz, fun a o e => S.ob a o (s a o e)⟩
theorem Sim.free (S : Sim K F h H) (e : H p = none) : F p = none ∧ h p = none := by
  refine ⟨?_, ?_⟩
  · cases q : F p with
    | none => rfl
    | some o => rw [S.fz _ _ q] at e; cases e
  · cases q : h p with
    | none => rfl
    | some o => obtain ⟨_, u, e', _⟩ := S.ob _ _ q; rw [e'] at e; cases e
/-- a new object, never to change -/
theorem Sim.newF (S : Sim K F h H) (e : H p = none) (u : HO) : Sim K (upd F p u) h (upd H p u) := by
  obtain ⟨e1, e2⟩ := S.free e
  refine ⟨fun a o q => ?_, fun a o q => ?_⟩
  · by_cases c : a = p
    · subst c; rw [upd_same] at q ⊢; exact q
    · rw [upd_ne c] at q ⊢; exact S.fz _ _ q
  · have c : a ≠ p := by rintro rfl; rw [e2] at q; cases q
    obtain ⟨f, w, hw, r⟩ := S.ob _ _ q
    rw [upd_ne c, upd_ne c]
    exact ⟨f, w, hw, r.ext (ext_upd e1)⟩
/-- a new object that may change -/
theorem Sim.newM (S : Sim K F h H) (e : H p = none) {o : AO} {u : HO} (r : RepO K F o u) : Sim K F (up h p o) (upd H p u) := by
  obtain ⟨e1, e2⟩ := S.free e
  refine ⟨fun a v q => ?_, fun a v q => ?_⟩
  · have c : a ≠ p := by rintro rfl; rw [e1] at q; cases q
    rw [upd_ne c]; exact S.fz _ _ q
  · by_cases c : a = p
    · subst c; rw [up_same] at q; cases q; exact ⟨e1, u, upd_same, r⟩
    · rw [up_ne c] at q; rw [upd_ne c]; exact S.ob _ _ q
/-- an object changes -/
theorem Sim.put (S : Sim K F h H) {o0 : AO} (e : h p = some o0) {o : AO} {u : HO} (r : RepO K F o u) : Sim K F (up h p o) (upd H p u) := by
  obtain ⟨e1, _⟩ := S.ob _ _ e
  refine ⟨fun a v q => ?_, fun a v q => ?_⟩
  · have c : a ≠ p := by rintro rfl; rw [e1] at q; cases q
    rw [upd_ne c]; exact S.fz _ _ q
  · by_cases c : a = p
    · subst c; rw [up_same] at q; cases q; exact ⟨e1, u, upd_same, r⟩
    · rw [up_ne c] at q; rw [upd_ne c]; exact S.ob _ _ q
end
abbrev EnvD := List (Option D)
def EnvR (K : PySem.W.Frag) (F : Hp) (ρ : EnvD) (σ : St) : Prop := σ.length = ρ.length ∧ ∀ (i : Nat) d, ρ[i]? = some (some d) → ∃ v, σ[i]? = some (some v) ∧ Rep K F d v
theorem EnvR.ext {K : PySem.W.Frag} {F F' : Hp} (e : Ext F F') {ρ : EnvD} {σ : St} (r : EnvR K F ρ σ) : EnvR K F' ρ σ :=
  ⟨r.1, fun i d h => let ⟨v, a, b⟩ := r.2 i d h; ⟨v, a, b.ext e⟩⟩
theorem EnvR.set {K : PySem.W.Frag} {F : Hp} {ρ : EnvD} {σ : St} (r : EnvR K F ρ σ) {d : D} {v : V} (q : Rep K F d v) (i : Nat) : EnvR K F (ρ.set i (some d)) (σ.set i (some v)) := by
  refine ⟨by simp [r.1], fun j x e => ?_⟩
  by_cases c : i = j
  · subst c
    by_cases l : i < ρ.length
    · rw [List.getElem?_set_self l] at e; cases e
      exact ⟨v, List.getElem?_set_self (by rw [r.1]; exact l), q⟩
    · rw [List.getElem?_eq_none (by simpa using l)] at e; cases e
  · rw [List.getElem?_set_ne c] at e ⊢
    exact r.2 j x e
theorem RepE.env {K : PySem.W.Frag} {F : Hp} : ∀ {ρ : EnvD} {σ : St}, RepE K F ρ σ → EnvR K F ρ σ
  | _, _, .nil => ⟨rfl, fun i d h => by simp at h⟩
  | _, _, .none t => by
    obtain ⟨l, h⟩ := RepE.env t
    refine ⟨by simp [l], fun i d e => ?_⟩
    cases i with
    | zero => simp at e
    | succ i => simpa using h i d (by simpa using e)
  | _, _, .cons (v := v) r t => by
    obtain ⟨l, h⟩ := RepE.env t
    refine ⟨by simp [l], fun i d e => ?_⟩
    cases i with
    | zero =>
      obtain rfl := Option.some.inj (Option.some.inj (by simpa using e))
      exact ⟨v, by simp, r⟩
    | succ i => simpa using h i d (by simpa using e)
theorem EnvR.rep {K : PySem.W.Frag} {F : Hp} : ∀ {ρ : EnvD} {σ : St}, EnvR K F ρ σ → RepE K F ρ σ
  | [], σ, ⟨l, _⟩ => by
    cases σ with
    | nil => exact .nil
    | cons _ _ => cases l
  | x :: ρ, σ, ⟨l, h⟩ => by
    cases σ with
    | nil => cases l
    | cons v σ =>
      have t : RepE K F ρ σ := EnvR.rep ⟨by simpa using l, fun i d e => by simpa using h (i + 1) d (by simpa using e)⟩
      cases x with
      | none => exact .none t
      | some d =>
        obtain ⟨v', e, r⟩ := h 0 d (by simp)
        obtain rfl : v = some v' := by simpa using e
        exact .cons r t
/-! ### exceptions -/
inductive DX where
  | own (C : Addr) (fs : List (Str × D)) | blt (n : String)
def RepX (K : PySem.W.Frag) (F H : Hp) : DX → Value → Option Addr → Prop
  | .own C fs, cls, d => cls = .ref C ∧ ((fs = [] ∧ d = none) ∨ ∃ dd vs, d = some dd ∧ H dd = some (.xd vs) ∧ RepF K F fs vs)
  | .blt n, cls, _ => cls = .type n
abbrev KD := D → AH → Prop
abbrev KX := DX → AH → Prop
abbrev WE := EnvD → AH → KD → KX → Prop
abbrev WT := EnvD → AH → (Bool → AH → Prop) → KX → Prop
abbrev WA := EnvD → AH → (List D → AH → Prop) → KX → Prop
structure EndsD where
  nx : EnvD → AH → Prop
  rt : KD
  bk : EnvD → AH → Prop := fun _ _ => False
  ct : EnvD → AH → Prop := fun _ _ => False
  ex : KX
abbrev WS := EndsD → EnvD → AH → Prop
/-! ### the lifts -/
def LQ (K : PySem.W.Frag) (F : Hp) (Q : VK) : KD := fun d h' => ∀ F' H' v, Ext F F' → Sim K F' h' H' → Rep K F' d v → Q v H'
def LB (K : PySem.W.Frag) (F : Hp) (Q : Bool → Hp → Prop) : Bool → AH → Prop := fun b h' => ∀ F' H', Ext F F' → Sim K F' h' H' → Q b H'
def LA (K : PySem.W.Frag) (F : Hp) (Q : List V → Hp → Prop) : List D → AH → Prop := fun ds h' => ∀ F' H' vs, Ext F F' → Sim K F' h' H' → Reps K F' ds vs → Q vs H'
def LS (K : PySem.W.Frag) (F : Hp) (Q : St → Hp → Prop) : EnvD → AH → Prop := fun ρ' h' => ∀ F' H' σ', Ext F F' → Sim K F' h' H' → EnvR K F' ρ' σ' → Q σ' H'
def LX (K : PySem.W.Frag) (F : Hp) (E : XK) : KX := fun x h' => ∀ F' H' cls d, Ext F F' → Sim K F' h' H' → RepX K F' H' x cls d → E cls d H'
def LD (K : PySem.W.Frag) (F : Hp) (D : Ends) (E : XK) : EndsD := { nx := LS K F D.nx, rt := LQ K F D.rt, bk := LS K F D.bk, ct := LS K F D.ct, ex := LX K F E }
section
variable {K : PySem.W.Frag} {F F' : Hp}
theorem LQ.ext (e : Ext F F') {Q : VK} {d : D} {h : AH} (q : LQ K F Q d h) : LQ K F' Q d h := fun G H v a b c => q G H v (e.trans a) b c
theorem LB.ext (e : Ext F F') {Q : Bool → Hp → Prop} {d : Bool} {h : AH} (q : LB K F Q d h) : LB K F' Q d h := fun G H a b => q G H (e.trans a) b
theorem LA.ext (e : Ext F F') {Q : List V → Hp → Prop} {d : List D} {h : AH} (q : LA K F Q d h) : LA K F' Q d h := fun G H v a b c => q G H v (e.trans a) b c
theorem LS.ext (e : Ext F F') {Q : St → Hp → Prop} {d : EnvD} {h : AH} (q : LS K F Q d h) : LS K F' Q d h := fun G H v a b c => q G H v (e.trans a) b c
theorem LX.ext (e : Ext F F') {E : XK} {d : DX} {h : AH} (q : LX K F E d h) : LX K F' E d h := fun G H v w a b c => q G H v w (e.trans a) b c
end
def tE (K : PySem.W.Frag) (E : XK) (w : WE) : TE := fun σ H Q => ∃ F ρ h, Sim K F h H ∧ EnvR K F ρ σ ∧ w ρ h (LQ K F Q) (LX K F E)
def tT (K : PySem.W.Frag) (E : XK) (w : WT) : TT := fun σ H Q => ∃ F ρ h, Sim K F h H ∧ EnvR K F ρ σ ∧ w ρ h (LB K F Q) (LX K F E)
def tA (K : PySem.W.Frag) (E : XK) (w : WA) : TA := fun σ H Q => ∃ F ρ h, Sim K F h H ∧ EnvR K F ρ σ ∧ w ρ h (LA K F Q) (LX K F E)
def tS (K : PySem.W.Frag) (E : XK) (w : WS) : TS := fun D σ H => ∃ F ρ h, Sim K F h H ∧ EnvR K F ρ σ ∧ w (LD K F D E) ρ h
structure EndsD.Le (D D' : EndsD) : Prop where
  nx : ∀ ρ h, D.nx ρ h → D'.nx ρ h
  rt : ∀ d h, D.rt d h → D'.rt d h
  bk : ∀ ρ h, D.bk ρ h → D'.bk ρ h
  ct : ∀ ρ h, D.ct ρ h → D'.ct ρ h
  ex : ∀ x h, D.ex x h → D'.ex x h
theorem LD.ext {K : PySem.W.Frag} {F F' : Hp} (e : Ext F F') {D : Ends} {E : XK} : (LD K F D E).Le (LD K F' D E) :=
  ⟨fun _ _ q => LS.ext e q, fun _ _ q => LQ.ext e q, fun _ _ q => LS.ext e q, fun _ _ q => LS.ext e q, fun _ _ q => LX.ext e q⟩
theorem EndsD.Le.refl (D : EndsD) : D.Le D := ⟨fun _ _ q => q, fun _ _ q => q, fun _ _ q => q, fun _ _ q => q, fun _ _ q => q⟩
/-- monotone -/
def MoE (w : WE) : Prop := ∀ ρ h Q Q' X X', (∀ d h, Q d h → Q' d h) → (∀ x h, X x h → X' x h) → w ρ h Q X → w ρ h Q' X'
def MoT (w : WT) : Prop := ∀ ρ h Q Q' X X', (∀ d h, Q d h → Q' d h) → (∀ x h, X x h → X' x h) → w ρ h Q X → w ρ h Q' X'
def MoA (w : WA) : Prop := ∀ ρ h Q Q' X X', (∀ d h, Q d h → Q' d h) → (∀ x h, X x h → X' x h) → w ρ h Q X → w ρ h Q' X'
def MoS (w : WS) : Prop := ∀ D D' ρ h, D.Le D' → w D ρ h → w D' ρ h
/-! ### the judgements -/
structure AE (X : Cx) (E : XK) (e : Expr) (w : WE) : Prop where
  run : PE X e (tE X.K E w)
  mo : MoE w
structure AT (X : Cx) (E : XK) (e : Expr) (w : WT) : Prop where
  run : PT X e (tT X.K E w)
  mo : MoT w
structure AW (X : Cx) (E : XK) (e : Expr) (w : WT) : Prop where
  run : PW X e (tT X.K E w)
  mo : MoT w
structure AA (X : Cx) (E : XK) (es : List Expr) (w : WA) : Prop where
  run : PA X es (tA X.K E w)
  mo : MoA w
structure AS (X : Cx) (E : XK) (st : Stmt) (w : WS) : Prop where
  run : PS X st (tS X.K E w)
  mo : MoS w
structure ASs (X : Cx) (E : XK) (sts : List Stmt) (w : WS) : Prop where
  run : PSs X sts (tS X.K E w)
  mo : MoS w
theorem PE.imp {X : Cx} {e : Expr} {t t' : TE} (p : PE X e t) (h : ∀ σ H Q, t' σ H Q → t σ H Q) : PE X e t' := ⟨fun pins s σ H Q I q => p.run pins s σ H Q I (h _ _ _ q)⟩
theorem PT.imp {X : Cx} {e : Expr} {t t' : TT} (p : PT X e t) (h : ∀ σ H Q, t' σ H Q → t σ H Q) : PT X e t' := ⟨fun pins s σ H Q I q => p.run pins s σ H Q I (h _ _ _ q)⟩
theorem PW.imp {X : Cx} {e : Expr} {t t' : TT} (p : PW X e t) (h : ∀ σ H Q, t' σ H Q → t σ H Q) : PW X e t' := ⟨fun wh pins s σ H Q I q => p.run wh pins s σ H Q I (h _ _ _ q)⟩
theorem PA.imp {X : Cx} {e : List Expr} {t t' : TA} (p : PA X e t) (h : ∀ σ H Q, t' σ H Q → t σ H Q) : PA X e t' := ⟨fun pos pins s σ H Q I q => p.run pos pins s σ H Q I (h _ _ _ q)⟩
theorem PS.imp {X : Cx} {e : Stmt} {t t' : TS} (p : PS X e t) (h : ∀ D σ H, t' D σ H → t D σ H) : PS X e t' := ⟨fun pins s σ H Q I q => p.run pins s σ H Q I (h _ _ _ q)⟩
theorem PSs.imp {X : Cx} {e : List Stmt} {t t' : TS} (p : PSs X e t) (h : ∀ D σ H, t' D σ H → t D σ H) : PSs X e t' := ⟨fun pins s σ H Q I q => p.run pins s σ H Q I (h _ _ _ q)⟩
end DL
namespace DL
open PySem PySem.Spec L2
/-! ### a def's promise over data -/
abbrev FSpec := List D → AH → KD → KX → Prop
def MoF (S : FSpec) : Prop := ∀ ds h Q Q' X X', (∀ d h, Q d h → Q' d h) → (∀ x h, X x h → X' x h) → S ds h Q X → S ds h Q' X'
def spD (K : PySem.W.Frag) (S : FSpec) : Sp := fun vs H Q E => ∃ F ds h, Sim K F h H ∧ Reps K F ds vs ∧ S ds h (LQ K F Q) (LX K F E)
/-- what is asked around a piece of code -/
structure Cg (gz : Bool) (X : Cx) (E : XK) (k : Nat) : Prop where
  room : Room k X.A
  gd : gz = true → X.A.guards = some []
  calm : X.calm = true
  nd : X.N.Nodup
  ps : Passes (L2.CX X.prog X.w) X E
  po : PassesOwn (model X.prog X.w) X.A X.env X.xe
theorem Cg.mono {gz : Bool} {X : Cx} {E : XK} {j k : Nat} (c : Cg gz X E k) (h : j ≤ k) : Cg gz X E j := ⟨c.room.mono h, c.gd, c.calm, c.nd, c.ps, c.po⟩
/-- a def at f keeps its promise: ahead of it no guard runs -/
structure FnG (gz : Bool) (P : Program) (w : World) (K : PySem.W.Frag) (mg : Str → Option Value) (base : Heap) (k : Nat) (f : Addr) (fd : FuncData) (ps : List Str) (S : FSpec) : Prop where
  len : ∀ ds h Q X, S ds h Q X → ds.length = ps.length
  mo : MoF S
  run : ∀ {A : Around} {outer : List Env} {s : Shared} {H : Hp} {args : Args} {us : List Value} {vs : List V} {Q : VK} {E : XK},
    Room k A → (gz = true → A.guards = some []) → Env0 P w K mg base A outer s H → BindsTo s fd args (ps.zip us) → Vals vs us → spD K S vs H Q E →
    codeAny (model P w) A (.call (.ref f) args) (CR (L2.CX P w) outer P w H s Q E) s
theorem FnG.mono {gz : Bool} {P : Program} {w : World} {K : PySem.W.Frag} {mg : Str → Option Value} {base : Heap} {j k : Nat} {f : Addr} {fd : FuncData} {ps : List Str} {S : FSpec}
    (G : FnG gz P w K mg base j f fd ps S) (h : j ≤ k) : FnG gz P w K mg base k f fd ps S :=
  ⟨G.len, G.mo, fun r g e b v q => G.run (r.mono h) g e b v q⟩
theorem spD_len {K : PySem.W.Frag} {S : FSpec} {n : Nat} (l : ∀ ds h Q X, S ds h Q X → ds.length = n) {vs : List V} {H : Hp} {Q : VK} {E : XK} (h : spD K S vs H Q E) : vs.length = n := by
  obtain ⟨F, ds, g, _, r, q⟩ := h
  rw [← r.length]; exact l _ _ _ _ q
/-! ### from a body to the promise -/
/-- what may be told of a result: parts are dropped, a list that stands alone is frozen -/
inductive Fz : D → AH → D → AH → Prop where
  | sub {d : D} {h g : AH} : Sub g h → Fz d h d g
  | lst {a : Addr} {xs : List D} {h g : AH} : h a = some (.lst xs) → g a = none → Sub g h → Fz (.ref a) h (.lst xs) g
  | dK {a : Addr} {xs : List (Key × D)} {h g : AH} : h a = some (.dK xs) → g a = none → Sub g h → Fz (.ref a) h (.dK xs) g
  | dT {a : Addr} {xs : List (List Key × D)} {h g : AH} : h a = some (.dT xs) → g a = none → Sub g h → Fz (.ref a) h (.dT xs) g
  | tup1 {a : Addr} {xs ys : List D} {h g : AH} : h a = some (.lst xs) → g a = none → Sub g h → Fz (.tup (.ref a :: ys)) h (.tup (.lst xs :: ys)) g
  | sem {d d' : D} {h g : AH} : (∀ (K : PySem.W.Frag) (F H : Hp) (v : V), Sim K F h H → Rep K F d v → ∃ F', Ext F F' ∧ Sim K F' g H ∧ Rep K F' d' v) → Fz d h d' g
def fin (Q : KD) : KD := fun d h => ∃ d' g, Fz d h d' g ∧ Q d' g
theorem fin_of {Q : KD} {d : D} {h : AH} (q : Q d h) : fin Q d h := ⟨d, h, .sub (.refl h), q⟩
theorem fin_sub {Q : KD} {d : D} {h g : AH} (s : Sub g h) (q : Q d g) : fin Q d h := ⟨d, g, .sub s, q⟩
/-- a list among the changing ones is made one that does not change -/
theorem Sim.frz {K : PySem.W.Frag} {F : Hp} {h g : AH} {H : Hp} {a : Addr} {o : AO} {u : HO} (S : Sim K F h H) (e : h a = some o) (eu : H a = some u) (n : g a = none) (s : Sub g h) : Ext F (upd F a u) ∧ Sim K (upd F a u) g H := by
  obtain ⟨f, _⟩ := S.ob _ _ e
  refine ⟨ext_upd f, fun b v q => ?_, fun b v q => ?_⟩
  · by_cases c : b = a
    · subst c; rw [upd_same] at q; cases q; exact eu
    · rw [upd_ne c] at q; exact S.fz _ _ q
  · have c : b ≠ a := by rintro rfl; rw [n] at q; cases q
    obtain ⟨f1, w, hw, r⟩ := S.ob _ _ (s _ _ q)
    exact ⟨by rw [upd_ne c]; exact f1, w, hw, r.ext (ext_upd f)⟩
theorem LQ.fin {K : PySem.W.Frag} {F : Hp} {Q : VK} {d : D} {h : AH} (q : fin (LQ K F Q) d h) : LQ K F Q d h := by
  intro F' H' v e S r
  obtain ⟨d', g, z, q⟩ := q
  cases z with
  | sub s => exact q F' H' v e (S.sub s) r
  | @lst a xs _ _ ha hg s =>
    cases r
    obtain ⟨f, u, hu, vs, rfl, rs⟩ := S.ob _ _ ha
    obtain ⟨e2, S2⟩ := S.frz ha hu hg s
    exact q _ _ _ (e.trans e2) S2 (.lst upd_same (rs.ext e2))
  | @dK a xs _ _ ha hg s =>
    cases r
    obtain ⟨f, u, hu, vs, rfl, rs⟩ := S.ob _ _ ha
    obtain ⟨e2, S2⟩ := S.frz ha hu hg s
    exact q _ _ _ (e.trans e2) S2 (.dK upd_same (rs.ext e2))
  | @dT a xs _ _ ha hg s =>
    cases r
    obtain ⟨f, u, hu, vs, rfl, rs⟩ := S.ob _ _ ha
    obtain ⟨e2, S2⟩ := S.frz ha hu hg s
    exact q _ _ _ (e.trans e2) S2 (.dT upd_same (rs.ext e2))
  | @tup1 a xs ys _ _ ha hg s =>
    cases r with
    | tup hq rr =>
      cases rr with
      | cons r1 rt =>
        cases r1
        obtain ⟨f, u, hu, vs, rfl, rs⟩ := S.ob _ _ ha
        obtain ⟨e2, S2⟩ := S.frz ha hu hg s
        exact q _ _ _ (e.trans e2) S2 (.tup (e2.sqt hq) (.cons (.lst upd_same (rs.ext e2)) (rt.ext e2)))
  | sem hh =>
    obtain ⟨F2, e2, S2, r2⟩ := hh _ _ _ _ S r
    exact q _ _ _ (e.trans e2) S2 r2
def startD (n : Nat) (ds : List D) : EnvD := ds.map some ++ List.replicate (n - ds.length) none
def endsD (Q : KD) (X : KX) : EndsD := { nx := fun _ h => fin Q .non h, rt := fin Q, ex := X }
theorem start_env {K : PySem.W.Frag} {F : Hp} {N : List Str} {ds : List D} {vs : List V} (r : Reps K F ds vs) : EnvR K F (startD N.length ds) (L2.start N vs) := by
  have l := r.length
  refine ⟨by simp [startD, L2.start, l], fun i d e => ?_⟩
  unfold startD at e
  by_cases c : i < ds.length
  · rw [List.getElem?_append_left (by simpa using c), List.getElem?_map] at e
    cases q : ds[i]? with
    | none => rw [q] at e; cases e
    | some x =>
      rw [q] at e; cases e
      obtain ⟨v, h1, h2⟩ := r.get q
      refine ⟨v, ?_, h2⟩
      unfold L2.start
      rw [List.getElem?_append_left (by rw [List.length_map, ← l]; exact c), List.getElem?_map, h1]
      rfl
  · rw [List.getElem?_append_right (by simpa using c), List.getElem?_replicate] at e
    split at e <;> cases e
section
variable {P : Program} {w : World} {K : PySem.W.Frag} {mg : Str → Option Value} {base : Heap}
/-- THE RULE for a def: its body as a term of rules, and what it computes over data -/
theorem fng_of {gz : Bool} {x qual : Str} {st : Stmt} {f : Addr} {fd : FuncData} {N ps : List Str} {k : Nat} {S : FSpec} {W : WS}
    (F : Fun K x qual st f fd) (sc : FnScope N ps (defScope st)) (len : ∀ ds h Q X, S ds h Q X → ds.length = ps.length) (mo : MoF S)
    (body : ∀ (cdv : Value) (A : Around) (outer : List PySem.Env) (s : Shared) (H : Hp) (E : XK), Cg gz (cxOf (L2.CX P w) P w K mg base N qual (defScope st) f cdv A outer s H E) E k →
      ASs (cxOf (L2.CX P w) P w K mg base N qual (defScope st) f cdv A outer s H E) E (defBody st) W)
    (pure : ∀ ds h Q X, S ds h Q X → W (endsD Q X) (startD N.length ds) h) : FnG gz P w K mg base (k + 1) f fd ps S := by
  refine ⟨len, mo, fun {A outer s H args us vs Q E} hr hg e0 hb hv hs => ?_⟩
  obtain ⟨oc, od, kV, doc, pm, an, cdv, ct, osl, rfl, lk, hcd⟩ := F.ex
  have lenv := spD_len len hs
  have inK : K.In s.heap := e0.mod.kin.keeps fun b o e =>
    (e0.bs b o e).1
  have nol : s.heap.NoLimit := e0.mod.nolimit.keeps fun b o e =>
    (e0.bs b o e).1
  have kinds : ∀ y ∈ ps.zip us, (defScope st).names.lookup y.1 = some .local ∨
      ((defScope st).names.lookup y.1 = some .cell ∧ ((cellsFrom (s.heap.objs.size + 1) (defScope st).names []).lookup y.1).isSome = true) := by
    rintro ⟨n, v⟩ hy
    cases sc.par n (List.of_mem_zip hy).1 with
    | inl q => exact .inl q
    | inr q => exact .inr ⟨q, PySem.W.cellsFrom_some _ _ _ (.inl q)⟩
  refine codeAny_call_function hr.depth (inK _ _ lk) rfl
    sc.co sc.gen rfl (PySem.W.codeRec_of inK hcd) (hb _ _ _ _ ?_)
  refine wpAny_newFunctionEnv_cells sc.kind kinds
    fun env he s1 ic => ?_
  subst he
  refine ⟨nol.keeps ic.toInCall.keep,
    codeAny_func ?_⟩
  have I := inv_start (CX := L2.CX P w) (P := P) (w := w) (mg := mg) (base := base) (E := E) sc hr.hd e0 lenv hv ic
  have c : Cg gz (cxOf (L2.CX P w) P w K mg base N qual (defScope st) f cdv A outer s H E) E k :=
    ⟨hr.deeper _, hg, rfl, sc.nd, passes_call (takes_of rfl rfl rfl rfl) fun _ _ _ _ z => z, passes_of rfl⟩
  obtain ⟨F0, ds, g, S0, r0, q0⟩ := hs
  have B := body cdv A outer s H E c
  have go : tS K E W { nx := fun _ H' => Q .non H', rt := Q } (L2.start N vs) H := by
    refine ⟨F0, _, g, S0, start_env r0, B.mo (endsD (LQ K F0 Q) (LX K F0 E)) _ _ _ ⟨fun ρ h z => ?_, fun d h z => LQ.fin z, fun _ _ z => False.elim z, fun _ _ z => False.elim z, fun _ _ z => z⟩ (pure ds g _ _ q0)⟩
    exact fun F' H' σ' e S' _ => LQ.fin z F' H' .non e S' .non
  refine wpAny_mono (B.run.run [] s1 _ H _ I go) (fun fl s' hq => ?_) fun e s' hq => hq
  cases fl with
  | ret u =>
    obtain ⟨v, σ', H', J, rv, q⟩ := hq
    exact ⟨v, H', J.os, J.bare, J.base, J.hok, rv, q⟩
  | next =>
    obtain ⟨σ', H', J, q⟩ := hq
    exact ⟨.non, H', J.os, J.bare, J.base, J.hok, rfl, q⟩
  | brk => obtain ⟨_, _, _, q⟩ := hq; exact q.elim
  | cont => obtain ⟨_, _, _, q⟩ := hq; exact q.elim
end
/-! ### calls -/
/-- how n positional values and the keywords' values (names ks) come to the parameters -/
structure Bnd (K : PySem.W.Frag) (fd : FuncData) (ps : List Str) (n : Nat) (ks : List Str) (g : List D → List D → List D) : Prop where
  to : ∀ (s : Shared) (F : Hp) (ds zs : List D) (vs ys : List V) (us ws : List Value), K.In s.heap → ds.length = n → zs.length = ks.length →
    Reps K F ds vs → Vals vs us → Reps K F zs ys → Vals ys ws → ∃ xs ts, Reps K F (g ds zs) xs ∧ Vals xs ts ∧ BindsTo s fd ⟨us, ks.zip ws⟩ (ps.zip ts)
theorem Bnd.plain {K : PySem.W.Frag} {fd : FuncData} {ps : List Str} (h : ∀ us : List Value, us.length = ps.length → bindArgs fd ⟨us, []⟩ = pure (ps.zip us)) : Bnd K fd ps ps.length [] (fun ds _ => ds) := by
  refine ⟨fun s F ds zs vs ys us ws X l1 l2 r1 r2 r3 r4 => ⟨vs, us, r1, r2, ?_⟩⟩
  have l : us.length = ps.length := by rw [← r2.length, ← r1.length]; exact l1
  cases zs with
  | cons _ _ => cases l2
  | nil => cases r3; cases r4; exact .of_eq (h us l)
/-- a def that a name of the module holds -/
structure Cal (gz : Bool) (P : Program) (w : World) (K : PySem.W.Frag) (mg : Str → Option Value) (base : Heap) (x : Str) (k n : Nat) (ks : List Str) (g : List D → List D → List D) (S : FSpec) : Prop where
  ex : ∃ f fd ps, mg x = some (.ref f) ∧ PySem.W.keepIn K (.ref f) = true ∧ FnG gz P w K mg base k f fd ps S ∧ Bnd K fd ps n ks g
section
variable {X : Cx} {E : XK} {k n : Nat} {ks : List Str} {g : List D → List D → List D} {S : FSpec} {x : Str} {p pos : Pos} {e : Expr} {es : List Expr} {wa wk : WA}
theorem run_g {gz gy : Bool} {pins : List (Addr × Obj)} {σ : L2.St} {H : Hp} {s : Shared} {Q : VK} {f : Addr} {fd : FuncData} {ps : List Str} {args : Args} {us : List Value} {vs : List V} (c : Cg gz X E k)
    (G : FnG gy X.prog X.w X.K X.mg X.base k f fd ps S) (hz : gy = true → gz = true) (I : Inv X pins σ H s) (hb : BindsTo s fd args (ps.zip us)) (r : Vals vs us) (h : spD X.K S vs H Q E) :
    codeAny (model X.prog X.w) X.A (.call (.ref f) args) (fun r s' => match r with | .ok (.ret u) => EP X pins σ Q u s' | .ok _ => False | .error e => X.xe e s') s := by
  refine codeAny_mono (G.run c.room (fun z => c.gd (hz z)) I.env0 hb r h) fun r s' hq => ?_
  match r, hq with
  | .error e, hq => exact c.ps pins σ H s e s' I hq
  | .ok (.ret u), hq => exact I.after hq
  | .ok .next, hq => exact hq.elim
  | .ok .brk, hq => exact hq.elim
  | .ok .cont, hq => exact hq.elim
end
/-- f(..): n positional values, keywords -/
def wCall (S : FSpec) (n m : Nat) (g : List D → List D → List D) (wa wk : WA) : WE := fun ρ h Q X => wa ρ h (fun ds h1 => wk ρ h1 (fun zs h2 => ds.length = n ∧ zs.length = m ∧ S (g ds zs) h2 Q X) X) X
end DL
namespace DL
open PySem PySem.Spec L2
/-! ### data as the library's own data -/
mutual
def pd : D → PyData
  | .non => .none
  | .bl b => .bool b
  | .int i => .int i
  | .str s => .str s
  | .tup xs => .tuple (pds xs)
  | .tpl xs => .tuple (pds xs)
  | .lst xs => .list (pds xs)
  | .ref _ => .none
  | .ty _ => .none
  | .lk _ => .none
  | .ob _ _ => .none
  | .xob _ _ => .none
  | .lam _ _ _ _ _ => .none
  | .dK _ => .none
  | .dT _ => .none
def pds : List D → List PyData
  | [] => []
  | x :: xs => pd x :: pds xs
end
mutual
def dat : D → Bool
  | .non => true
  | .bl _ => true
  | .int _ => true
  | .str _ => true
  | .tup xs => dats xs
  | .tpl xs => dats xs
  | .lst xs => dats xs
  | .ref _ => false
  | .ty _ => false
  | .lk _ => false
  | .ob _ _ => false
  | .xob _ _ => false
  | .lam _ _ _ _ _ => false
  | .dK _ => false
  | .dT _ => false
def dats : List D → Bool
  | [] => true
  | x :: xs => dat x && dats xs
end
theorem pds_map : ∀ xs : List D, pds xs = xs.map pd
  | [] => rfl
  | x :: xs => by rw [pds, pds_map xs]; rfl
/-- a list or dict that may change, as it stands now -/
def cur (h : AH) : D → D
  | .ref a => match h a with
    | some (.lst xs) => .lst xs
    | some (.dK kvs) => .dK kvs
    | some (.dT kvs) => .dT kvs
    | _ => .ref a
  | d => d
section
variable {K : PySem.W.Frag} {F H : Hp}
theorem sqt_of {a : Addr} {vs : List V} (e : ∀ a o, F a = some o → H a = some o) (h : SqT K F a vs) : SqT K H a vs := Ext.sqt e h
mutual
theorem Rep.dp (e : ∀ a o, F a = some o → H a = some o) : ∀ {d : D} {v : V}, Rep K F d v → dat d = true → Dp K H v (pd d)
  | _, _, .non, _ => by rw [pd]; exact .non
  | _, _, .bl b, _ => by rw [pd]; exact .bl b
  | _, _, .int i, _ => by rw [pd]; exact .int i
  | _, _, .str s, _ => by rw [pd]; exact .str s
  | _, _, .ref a, h => by rw [dat] at h; cases h
  | _, _, .ty n, h => by rw [dat] at h; cases h
  | _, _, .lk _ _, h => by rw [dat] at h; cases h
  | _, _, .ob _ _, h => by rw [dat] at h; cases h
  | _, _, .dK _ _, h => by rw [dat] at h; cases h
  | _, _, .dT _ _, h => by rw [dat] at h; cases h
  | _, _, .tup h r, q => by rw [dat] at q; rw [pd]; exact .tup (sqt_of e h) (Reps.dp e r q)
  | _, _, .tpl h hd r, q => by rw [dat] at q; rw [pd]; exact .tup (sqt_of e (.inl (.inr ⟨_, h⟩))) (Reps.dp e r q)
  | _, _, .lst h r, q => by rw [dat] at q; rw [pd]; exact .lst (.of (e _ _ h)) (Reps.dp e r q)
theorem Reps.dp (e : ∀ a o, F a = some o → H a = some o) : ∀ {ds : List D} {vs : List V}, Reps K F ds vs → dats ds = true → DpAll K H vs (pds ds)
  | _, _, .nil, _ => by rw [pds]; exact .nil
  | _, _, .cons h t, q => by
    rw [dats, Bool.and_eq_true] at q
    rw [pds]; exact .cons (Rep.dp e h q.1) (Reps.dp e t q.2)
end
theorem Sim.curDp {h : AH} (S : Sim K F h H) {d : D} {v : V} (r : Rep K F d v) (q : dat (cur h d) = true) : Dp K H v (pd (cur h d)) := by
  have base : ∀ {d : D} {v : V}, Rep K F d v → dat d = true → Dp K H v (pd d) := fun r q => r.dp S.fz q
  cases r with
  | ref a =>
    cases e : h a with
    | none => simp [cur, e, dat] at q
    | some o =>
      cases o with
      | lst xs =>
        obtain ⟨_, u, hu, vs, rfl, rs⟩ := S.ob _ _ e
        simp only [cur, e, dat] at q
        simp only [cur, e, pd]
        exact .lst (.of hu) (rs.dp S.fz q)
      | dK _ => simp [cur, e, dat] at q
      | dT _ => simp [cur, e, dat] at q
      | ins _ _ => simp [cur, e, dat] at q
      | lck _ => simp [cur, e, dat] at q
      | lckK _ _ => simp [cur, e, dat] at q
      | tab _ => simp [cur, e, dat] at q
  | non => exact base .non q
  | bl b => exact base (.bl b) q
  | int i => exact base (.int i) q
  | str s => exact base (.str s) q
  | ty n => exact base (.ty n) q
  | tup h r => exact base (.tup h r) q
  | tpl h hd r => exact base (.tpl h hd r) q
  | lst h r => exact base (.lst h r) q
  | dK h r => exact base (.dK h r) q
  | dT h r => exact base (.dT h r) q
  | lk h r => exact base (.lk h r) q
  | ob h r => exact base (.ob h r) q
  | xob0 h => exact base (.xob0 h) q
  | lam h r => exact base (.lam h r) q
  | xob h hd r => exact base (.xob h hd r) q
end
/-! ### lists -/
def lstOf (h : AH) : D → Option (List D)
  | .lst xs => some xs
  | .ref a => match h a with
    | some (.lst xs) => some xs
    | _ => none
  | _ => none
def seqOf (h : AH) : D → Option (List D)
  | .tup xs => some xs
  | .tpl xs => some xs
  | d => lstOf h d
def newL (m : Bool) (xs : List D) (h : AH) (Q : KD) : Prop := if m = true then ∀ p, h p = none → Q (.ref p) (up h p (.lst xs)) else Q (.lst xs) h
section
variable {K : PySem.W.Frag} {F : Hp} {h : AH} {H : Hp} {d : D} {v : V} {xs : List D}
theorem Sim.lstOf (S : Sim K F h H) (r : Rep K F d v) (e : lstOf h d = some xs) : ∃ a vs, v = .ref a ∧ H a = some (.lst vs) ∧ Reps K F xs vs := by
  cases r with
  | ref a =>
    cases q : h a with
    | none => simp [DL.lstOf, q] at e
    | some o =>
      cases o with
      | lst ys =>
        simp only [DL.lstOf, q, Option.some.injEq] at e
        subst e
        obtain ⟨_, u, hu, vs, rfl, rs⟩ := S.ob _ _ q
        exact ⟨a, vs, rfl, hu, rs⟩
      | dK _ => simp [DL.lstOf, q] at e
      | dT _ => simp [DL.lstOf, q] at e
      | ins _ _ => simp [DL.lstOf, q] at e
      | lck _ => simp [DL.lstOf, q] at e
      | lckK _ _ => simp [DL.lstOf, q] at e
      | tab _ => simp [DL.lstOf, q] at e
  | @lst a ys vs hf rs =>
    cases e
    exact ⟨a, vs, rfl, S.fz _ _ hf, rs⟩
  | non => cases e
  | bl _ => cases e
  | int _ => cases e
  | str _ => cases e
  | ty _ => cases e
  | lk _ _ => cases e
  | ob _ _ => cases e
  | xob0 _ => cases e
  | lam _ _ => cases e
  | xob _ _ _ => cases e
  | tup _ _ => cases e
  | tpl _ _ _ => cases e
  | dK _ _ => cases e
  | dT _ _ => cases e
theorem Sim.seqOf (S : Sim K F h H) (r : Rep K F d v) (e : seqOf h d = some xs) : ∃ a vs, v = .ref a ∧ (SqL K H a vs ∨ SqT K H a vs) ∧ Reps K F xs vs := by
  by_cases c : ∃ ys, d = .tup ys
  · obtain ⟨ys, rfl⟩ := c
    cases r with
    | @tup a _ vs hf rs =>
      cases e
      exact ⟨a, vs, rfl, .inr (sqt_of S.fz hf), rs⟩
  by_cases c2 : ∃ ys, d = .tpl ys
  · obtain ⟨ys, rfl⟩ := c2
    cases r with
    | @tpl a _ _ vs hf _ rs =>
      cases e
      exact ⟨a, vs, rfl, .inr (sqt_of S.fz (.inl (.inr ⟨_, hf⟩))), rs⟩
  · have e' : DL.lstOf h d = some xs := by
      cases d <;> first | exact e | exact absurd ⟨_, rfl⟩ c | exact absurd ⟨_, rfl⟩ c2
    obtain ⟨a, vs, r1, r2, r3⟩ := S.lstOf r e'
    exact ⟨a, vs, r1, .inl (.of r2), r3⟩
theorem Sim.newL {m : Bool} {vs : List V} {Q : VK} (S : Sim K F h H) (r : Reps K F xs vs) (q : newL m xs h (LQ K F Q)) : ∀ p, H p = none → Q (.ref p) (upd H p (.lst vs)) := by
  intro p hp
  obtain ⟨f, g⟩ := S.free hp
  unfold DL.newL at q
  split at q
  · exact q p g F _ _ (.refl F) (S.newM hp ⟨vs, rfl, r⟩) (.ref p)
  · exact q _ _ _ (ext_upd f) (S.newF hp _) (.lst upd_same (r.ext (ext_upd f)))
theorem newL_mo {m : Bool} {Q Q' : KD} (hq : ∀ d h, Q d h → Q' d h) (q : newL m xs h Q) : newL m xs h Q' := by
  unfold newL at *
  split at q
  · rename_i c; rw [if_pos c]; exact fun p e => hq _ _ (q p e)
  · rename_i c; rw [if_neg c]; exact hq _ _ q
@[simp] theorem newL_t {Q : KD} : newL true xs h Q = ∀ p, h p = none → Q (.ref p) (up h p (.lst xs)) := by simp [newL]
@[simp] theorem newL_f {Q : KD} : newL false xs h Q = Q (.lst xs) h := by simp [newL]
/-- a new tuple -/
theorem Sim.newT {vs : List V} {Q : VK} (S : Sim K F h H) (r : Reps K F xs vs) (q : LQ K F Q (.tup xs) h) : ∀ p, H p = none → Q (.ref p) (upd H p (.tup vs)) := by
  intro p hp
  obtain ⟨f, g⟩ := S.free hp
  exact q _ _ _ (ext_upd f) (S.newF hp _) (.tup (.of upd_same) (r.ext (ext_upd f)))
theorem LQ.at {Q : VK} (q : LQ K F Q d h) (S : Sim K F h H) (r : Rep K F d v) : Q v H := q F H v (.refl F) S r
end
/-! ### operators over data -/
structure OpD (K : PySem.W.Frag) (r : V → V → Hp → VK → Prop) (f : D → D → AH → KD → Prop) : Prop where
  to : ∀ {F h H x y vx vy} {Q : VK}, Sim K F h H → Rep K F x vx → Rep K F y vy → f x y h (LQ K F Q) → r vx vy H Q
  mo : ∀ {x y h} {Q Q' : KD}, (∀ d h, Q d h → Q' d h) → f x y h Q → f x y h Q'
def MulOk (i j : Int) : Prop := (-(2 ^ 64) < i ∧ i < 2 ^ 64) ∨ (-(2 ^ 64) < j ∧ j < 2 ^ 64) ∨ i.natAbs.log2 + j.natAbs.log2 < 1000000
def DivOk (j : Int) : Prop := 0 < j ∧ (j < 1073741824 ∨ j.natAbs.log2 < 9000)
def PowOk (i j : Int) : Prop := 0 ≤ j ∧ j ≤ 1000000 ∧ i.natAbs < 2 ^ 64
def dAdd (m : Bool) (x y : D) (h : AH) (Q : KD) : Prop := match x, y with
  | .int i, .int j => Q (.int (i + j)) h
  | .str a, .str b => a.length + b.length ≤ sizeLine ∧ Q (.str (a ++ b)) h
  | .tup xs, .tup ys => xs.length + ys.length ≤ sizeLine ∧ Q (.tup (xs ++ ys)) h
  | x, y => ∃ xs ys, lstOf h x = some xs ∧ lstOf h y = some ys ∧ xs.length + ys.length ≤ sizeLine ∧ newL m (xs ++ ys) h Q
def dSub (x y : D) (h : AH) (Q : KD) : Prop := match x, y with
  | .int i, .int j => Q (.int (i - j)) h
  | _, _ => False
def dMul (m : Bool) (x y : D) (h : AH) (Q : KD) : Prop := match x, y with
  | .int i, .int j => MulOk i j ∧ Q (.int (i * j)) h
  | x, .int k => ∃ xs, lstOf h x = some xs ∧ k < 2 ^ 62 ∧ -(2 ^ 62) < k ∧ xs.length * k.toNat ≤ sizeLine ∧ newL m (List.replicate k.toNat xs).flatten h Q
  | _, _ => False
def dDiv (x y : D) (h : AH) (Q : KD) : Prop := match x, y with
  | .int i, .int j => DivOk j ∧ Q (.int (i / j)) h
  | _, _ => False
def dMod (x y : D) (h : AH) (Q : KD) : Prop := match x, y with
  | .int i, .int j => 0 < j ∧ Q (.int (i % j)) h
  | _, _ => False
def dPow (x y : D) (h : AH) (Q : KD) : Prop := match x, y with
  | .int i, .int j => PowOk i j ∧ Q (.int (i ^ j.toNat)) h
  | _, _ => False
def dCmpI (f : Int → Int → Bool) (x y : D) (h : AH) (Q : KD) : Prop := match x, y with
  | .int i, .int j => Q (.bl (f i j)) h
  | _, _ => False
/-- == of data -/
def dEq (f : Bool → Bool) (x y : D) (h : AH) (Q : KD) : Prop := match x, y with
  | .int i, .int j => Q (.bl (f (decide (i = j)))) h
  | .str i, .str j => Q (.bl (f (decide (i = j)))) h
  | .bl i, .bl j => Q (.bl (f (decide (i = j)))) h
  | x, y => dat (cur h x) = true ∧ dat (cur h y) = true ∧ SeqAt.shaped (pd (cur h x)) = true ∧ SeqAt.shaped (pd (cur h y)) = true ∧ Q (.bl (f (PyData.eqv (pd (cur h x)) (pd (cur h y))))) h
def dIsN (f : Bool → Bool) (x y : D) (h : AH) (Q : KD) : Prop := match x, y with
  | .non, .non => Q (.bl (f true)) h
  | .bl i, .bl j => Q (.bl (f (decide (i = j)))) h
  | _, .non => Q (.bl (f false)) h
  | _, _ => False
section
variable {X : Cx}
/-- the rule of values that a D-operator stands on -/
def rMul (K : PySem.W.Frag) : R2 := fun x y H Q => rI CMul (fun i j => .int (i * j)) x y H Q ∨ rI CMulW (fun i j => .int (i * j)) x y H Q ∨ rRep x y H Q
theorem op_mulD : OpR X (binaryOp .Mult) (rMul X.K) := OpR.or op_mul (OpR.or op_mulW op_rep)
theorem dMul_ok {K : PySem.W.Frag} {m : Bool} : OpD K (rMul K) (dMul m) where
  to := by
    intro F h H x y vx vy Q S rx ry q
    unfold dMul at q
    split at q
    · cases rx; cases ry
      obtain ⟨c, q⟩ := q
      rcases c with c | c | c
      · exact .inl ⟨_, _, rfl, rfl, .inl c, q.at S (.int _)⟩
      · exact .inl ⟨_, _, rfl, rfl, .inr c, q.at S (.int _)⟩
      · exact .inr (.inl ⟨_, _, rfl, rfl, c, q.at S (.int _)⟩)
    · obtain ⟨xs, e, c1, c2, l, q⟩ := q
      obtain ⟨a, vs, rfl, ha, rs⟩ := S.lstOf rx e
      cases ry
      refine .inr (.inr ⟨a, _, vs, rfl, rfl, ha, by omega, by omega, by rw [← rs.length]; exact l, S.newL (vs := (List.replicate _ vs).flatten) ?_ q⟩)
      generalize Int.toNat _ = n
      induction n with
      | zero => exact .nil
      | succ n ih => rw [List.replicate_succ, List.replicate_succ, List.flatten_cons, List.flatten_cons]; exact rs.append ih
    · exact q.elim
  mo := by
    intro x y h Q Q' hq q
    unfold dMul at *
    split at q
    · exact ⟨q.1, hq _ _ q.2⟩
    · obtain ⟨xs, e, c1, c2, l, q⟩ := q
      exact ⟨xs, e, c1, c2, l, newL_mo hq q⟩
    · exact q.elim
def rAddD (K : PySem.W.Frag) : R2 := fun x y H Q => rI0 (fun i j => .int (i + j)) x y H Q ∨ (∃ i j, x = .str i ∧ y = .str j ∧ i.length + j.length ≤ sizeLine ∧ Q (.str (i ++ j)) H) ∨ rCatA K x y H Q ∨ rCat x y H Q
theorem op_addD : OpR X (binaryOp .Add) (rAddD X.K) := OpR.or op_add (OpR.or op_add_str (OpR.or op_catA op_cat))
theorem reps_nil {K : PySem.W.Frag} {F : Hp} {xs : List D} {vs : List V} (r : Reps K F xs vs) : vs = [] ↔ xs = [] := by
  cases r <;> simp
theorem dAdd_ok {K : PySem.W.Frag} {m : Bool} : OpD K (rAddD K) (dAdd m) where
  to := by
    intro F h H x y vx vy Q S rx ry q
    unfold dAdd at q
    split at q
    · cases rx; cases ry
      exact .inl ⟨_, _, rfl, rfl, q.at S (.int _)⟩
    · cases rx; cases ry
      exact .inr (.inl ⟨_, _, rfl, rfl, q.1, q.2.at S (.str _)⟩)
    · cases rx with
      | @tup a xs vs ha rs =>
      cases ry with
      | @tup b ys ws hb rt =>
      obtain ⟨l, q⟩ := q
      refine .inr (.inr (.inl ⟨a, b, vs, ws, rfl, rfl, sqt_of S.fz ha, sqt_of S.fz hb, by rw [← rs.length, ← rt.length]; exact l, fun e => ?_, fun _ e => ?_, fun _ _ => S.newT (rs.append rt) q⟩))
      · rw [(reps_nil rs).mp e, List.nil_append] at q
        exact q.at S (.tup hb rt)
      · rw [(reps_nil rt).mp e, List.append_nil] at q
        exact q.at S (.tup ha rs)
    · obtain ⟨xs, ys, e1, e2, l, q⟩ := q
      obtain ⟨a, vs, rfl, ha, rs⟩ := S.lstOf rx e1
      obtain ⟨b, ws, rfl, hb, rt⟩ := S.lstOf ry e2
      exact .inr (.inr (.inr ⟨a, b, vs, ws, rfl, rfl, ha, hb, by rw [← rs.length, ← rt.length]; exact l, S.newL (rs.append rt) q⟩))
  mo := by
    intro x y h Q Q' hq q
    unfold dAdd at *
    split at q
    · exact hq _ _ q
    · exact ⟨q.1, hq _ _ q.2⟩
    · exact ⟨q.1, hq _ _ q.2⟩
    · obtain ⟨xs, ys, e1, e2, l, q⟩ := q
      exact ⟨xs, ys, e1, e2, l, newL_mo hq q⟩
theorem dSub_ok {K : PySem.W.Frag} : OpD K (rI0 fun i j => .int (i - j)) dSub where
  to := by
    intro F h H x y vx vy Q S rx ry q
    unfold dSub at q
    split at q
    · cases rx; cases ry; exact ⟨_, _, rfl, rfl, q.at S (.int _)⟩
    · exact q.elim
  mo := by
    intro x y h Q Q' hq q
    unfold dSub at *
    split at q
    · exact hq _ _ q
    · exact q.elim
def rDivD : R2 := fun x y H Q => rI CDiv (fun i j => .int (i / j)) x y H Q ∨ rI CDivW (fun i j => .int (i / j)) x y H Q
theorem op_divD : OpR X (binaryOp .FloorDiv) rDivD := OpR.or op_fdiv op_fdivW
theorem dDiv_ok {K : PySem.W.Frag} : OpD K rDivD dDiv where
  to := by
    intro F h H x y vx vy Q S rx ry q
    unfold dDiv at q
    split at q
    · cases rx; cases ry
      obtain ⟨⟨c0, c⟩, q⟩ := q
      rcases c with c | c
      · exact .inl ⟨_, _, rfl, rfl, ⟨c0, c⟩, q.at S (.int _)⟩
      · exact .inr ⟨_, _, rfl, rfl, ⟨c0, c⟩, q.at S (.int _)⟩
    · exact q.elim
  mo := by
    intro x y h Q Q' hq q
    unfold dDiv at *
    split at q
    · exact ⟨q.1, hq _ _ q.2⟩
    · exact q.elim
theorem dMod_ok {K : PySem.W.Frag} : OpD K (rI (fun _ j => 0 < j) fun i j => .int (i % j)) dMod where
  to := by
    intro F h H x y vx vy Q S rx ry q
    unfold dMod at q
    split at q
    · cases rx; cases ry; exact ⟨_, _, rfl, rfl, q.1, q.2.at S (.int _)⟩
    · exact q.elim
  mo := by
    intro x y h Q Q' hq q
    unfold dMod at *
    split at q
    · exact ⟨q.1, hq _ _ q.2⟩
    · exact q.elim
theorem dPow_ok {K : PySem.W.Frag} : OpD K (rI CPow fun i j => .int (i ^ j.toNat)) dPow where
  to := by
    intro F h H x y vx vy Q S rx ry q
    unfold dPow at q
    split at q
    · cases rx; cases ry; exact ⟨_, _, rfl, rfl, q.1, q.2.at S (.int _)⟩
    · exact q.elim
  mo := by
    intro x y h Q Q' hq q
    unfold dPow at *
    split at q
    · exact ⟨q.1, hq _ _ q.2⟩
    · exact q.elim
theorem dCmpI_ok {K : PySem.W.Frag} {f : Int → Int → Bool} : OpD K (rI0 fun i j => .bl (f i j)) (dCmpI f) where
  to := by
    intro F h H x y vx vy Q S rx ry q
    unfold dCmpI at q
    split at q
    · cases rx; cases ry; exact ⟨_, _, rfl, rfl, q.at S (.bl _)⟩
    · exact q.elim
  mo := by
    intro x y h Q Q' hq q
    unfold dCmpI at *
    split at q
    · exact hq _ _ q
    · exact q.elim
def rEqF (K : PySem.W.Frag) (f : Bool → Bool) : R2 := fun x y H Q => (scal x y = true ∧ Q (.bl (f (decide (x = y)))) H) ∨ ∃ d e, Dp K H x d ∧ Dp K H y e ∧ SeqAt.shaped d = true ∧ SeqAt.shaped e = true ∧ Q (.bl (f (PyData.eqv d e))) H
theorem op_eqF (hu : X.A.units + 64 < cLine) : OpR X (compareOp .Eq) (rEqF X.K fun b => b) := OpR.or op_eq (op_eqD hu)
theorem op_neF (hu : X.A.units + 64 < cLine) : OpR X (compareOp .NotEq) (rEqF X.K fun b => !b) := OpR.or op_ne (op_neD hu)
theorem dec_int {i j : Int} : decide (V.int i = V.int j) = decide (i = j) := by simp
theorem dec_str {i j : Str} : decide (V.str i = V.str j) = decide (i = j) := by simp
theorem dec_bl {i j : Bool} : decide (V.bl i = V.bl j) = decide (i = j) := by simp
theorem dEq_ok {K : PySem.W.Frag} {f : Bool → Bool} : OpD K (rEqF K f) (dEq f) where
  to := by
    intro F h H x y vx vy Q S rx ry q
    unfold dEq at q
    split at q
    · cases rx; cases ry; exact .inl ⟨rfl, by rw [dec_int]; exact q.at S (.bl _)⟩
    · cases rx; cases ry; exact .inl ⟨rfl, by rw [dec_str]; exact q.at S (.bl _)⟩
    · cases rx; cases ry; exact .inl ⟨rfl, by rw [dec_bl]; exact q.at S (.bl _)⟩
    · obtain ⟨c1, c2, c3, c4, q⟩ := q
      exact .inr ⟨_, _, S.curDp rx c1, S.curDp ry c2, c3, c4, q.at S (.bl _)⟩
  mo := by
    intro x y h Q Q' hq q
    unfold dEq at *
    split at q
    · exact hq _ _ q
    · exact hq _ _ q
    · exact hq _ _ q
    · obtain ⟨c1, c2, c3, c4, q⟩ := q
      exact ⟨c1, c2, c3, c4, hq _ _ q⟩
end
end DL
namespace DL
open PySem PySem.Spec L2
/-! ### expressions over data -/
def wC (d : D) : WE := fun _ h Q _ => Q d h
def wVar (i : Nat) : WE := fun ρ h Q _ => match ρ[i]? with
  | some (some d) => Q d h
  | _ => False
def wOp (f : D → D → AH → KD → Prop) (a b : WE) : WE := fun ρ h Q X => a ρ h (fun x h1 => b ρ h1 (fun y h2 => f x y h2 Q) X) X
def wNeg (a : WE) : WE := fun ρ h Q X => a ρ h (fun x h1 => match x with
  | .int i => Q (.int (-i)) h1
  | _ => False) X
def wChain (f g : D → D → AH → KD → Prop) (a b c : WE) : WE := fun ρ h Q X => a ρ h (fun x h1 => b ρ h1 (fun y h2 => f x y h2 fun z h3 => match z with
  | .bl k => if k = true then c ρ h3 (fun u h4 => g y u h4 Q) X else Q (.bl false) h3
  | _ => False) X) X
def wTest (a : WE) : WT := fun ρ h Q X => a ρ h (fun x h1 => match x with
  | .bl b => Q b h1
  | _ => False) X
def truD (h : AH) (x : D) : Option Bool := match cur h x with
  | .non => some false
  | .bl b => some b
  | .int i => some (i != 0)
  | .tup xs => some (!xs.isEmpty)
  | .tpl xs => some (!xs.isEmpty)
  | .lst xs => some (!xs.isEmpty)
  | .dK xs => some (!xs.isEmpty)
  | _ => none
def wAnd (a b : WT) : WT := fun ρ h Q X => a ρ h (fun c h1 => if c = true then b ρ h1 Q X else Q false h1) X
def wOr (a b : WT) : WT := fun ρ h Q X => a ρ h (fun c h1 => if c = true then Q true h1 else b ρ h1 Q X) X
def wNot (a : WT) : WT := fun ρ h Q X => a ρ h (fun c h1 => Q (!c) h1) X
def wAndV (a b : WE) : WE := fun ρ h Q X => a ρ h (fun x h1 => match x with
  | .bl c => if c = true then b ρ h1 Q X else Q (.bl false) h1
  | _ => False) X
def wNotV (a : WE) : WE := fun ρ h Q X => a ρ h (fun x h1 => match x with
  | .bl c => Q (.bl (!c)) h1
  | _ => False) X
def wIf (t : WT) (a b : WE) : WE := fun ρ h Q X => t ρ h (fun c h1 => if c = true then a ρ h1 Q X else b ρ h1 Q X) X
def wNil : WA := fun _ h Q _ => Q [] h
def wCons (a : WE) (r : WA) : WA := fun ρ h Q X => a ρ h (fun x h1 => r ρ h1 (fun xs h2 => Q (x :: xs) h2) X) X
def wTup (a : WA) : WE := fun ρ h Q X => a ρ h (fun xs h1 => xs.length ≤ sizeLine ∧ Q (.tup xs) h1) X
def wLst (m : Bool) (a : WA) : WE := fun ρ h Q X => a ρ h (fun xs h1 => xs.length ≤ sizeLine ∧ newL m xs h1 Q) X
def wCallP (S : FSpec) (n : Nat) (g : List D → List D → List D) (wa : WA) : WE := fun ρ h Q X => wa ρ h (fun ds h1 => ds.length = n ∧ S (g ds []) h1 Q X) X
/-- a built-in -/
def wB (r : List D → AH → KD → Prop) (a : WA) : WE := fun ρ h Q X => a ρ h (fun xs h1 => r xs h1 Q) X
section
variable {X : Cx} {E : XK} {k : Nat} {a b e : Expr} {es : List Expr} {wa wb wc : WE} {ta tb : WT} {wl : WA} {pos : Pos}
theorem ae_c {v : V} {d : D} (h : PE X e (tC v)) (r : ∀ F, Rep X.K F d v) : AE X E e (wC d) := by
  refine ⟨PE.imp h fun σ H Q ⟨F, ρ, g, S, R, q⟩ => ?_, fun ρ h Q Q' X X' hq _ q => hq _ _ q⟩
  exact LQ.at q S (r F)
theorem ae_int {i : Int} {j pos} : AE X E (.Constant (.int i) j pos) (wC (.int i)) := ae_c pe_int fun _ => .int i
theorem ae_bl {i : Bool} {j pos} : AE X E (.Constant (.bool i) j pos) (wC (.bl i)) := ae_c pe_bl fun _ => .bl i
theorem ae_non {j pos} : AE X E (.Constant .none j pos) (wC .non) := ae_c pe_non fun _ => .non
theorem ae_str {i : Str} {j pos} : AE X E (.Constant (.str i) j pos) (wC (.str i)) := ae_c pe_str fun _ => .str i
/-- what a name of the module holds -/
structure Cst (K : PySem.W.Frag) (mg : Str → Option Value) (x : Str) (d : D) : Prop where
  ex : ∃ v u, mg x = some u ∧ RelV v u ∧ ∀ F, Rep K F d v
theorem ae_glob {x : Str} {d : D} (c : Cst X.K X.mg x d) (hg : Gl X x := by rfl) (hd : (x == ("__debug__" : Str)) = false := by decide) : AE X E (.Name x pos) (wC d) := by
  obtain ⟨v, u, m, r, q⟩ := c.ex
  exact ae_c (pe_glob hg m r hd) q
theorem ae_ty {x : Str} {n : String} (hm : X.mg x = none) (hv : bootBuiltins x = some (.type n)) (hg : Gl X x := by rfl) (hn : x ≠ "__name__" := by decide) (hd : (x == ("__debug__" : Str)) = false := by decide) : AE X E (.Name x pos) (wC (.ty n)) :=
  ae_c (pe_bltn hg hm hv (v := .ty n) rfl hn hd) fun _ => .ty n
theorem ae_var (i : Nat) {x : Str} (hN : X.N[i]? = some x := by rfl) (hv : Vis X.env.scope x := by first | exact Or.inl rfl | exact Or.inr (Or.inl rfl) | exact Or.inr (Or.inr rfl))
    (hd : (x == ("__debug__" : Str)) = false := by decide) (hcd : (x == ("__classdict__" : Str)) = false := by decide) : AE X E (.Name x pos) (wVar i) := by
  refine ⟨PE.imp (pe_var hN hv hd hcd) fun σ H Q ⟨F, ρ, g, S, R, q⟩ => ?_, fun ρ h Q Q' X X' hq _ q => ?_⟩
  · unfold wVar at q
    split at q
    · rename_i d e
      obtain ⟨v, h1, h2⟩ := R.2 i d e
      exact ⟨v, h1, LQ.at q S h2⟩
    · exact q.elim
  · unfold wVar at *
    split at q
    · exact hq _ _ q
    · exact q.elim
/-- two expressions, then an operator of values -/
theorem two {r : R2} {f : D → D → AH → KD → Prop} (ok : OpD X.K r f) (ha : AE X E a wa) (hb : AE X E b wb) {σ : L2.St} {H : Hp} {Q : VK} (h : tE X.K E (wOp f wa wb) σ H Q) : tOp r (tE X.K E wa) (tE X.K E wb) σ H Q := by
  obtain ⟨F, ρ, g, S, R, q⟩ := h
  refine ⟨F, ρ, g, S, R, ha.mo _ _ _ _ _ _ (fun x h1 hx => ?_) (fun _ _ z => z) q⟩
  intro F1 H1 vx e1 S1 rx
  refine ⟨F1, ρ, h1, S1, R.ext e1, hb.mo _ _ _ _ _ _ (fun y h2 hf => ?_) (fun _ _ z => LX.ext e1 z) hx⟩
  intro F2 H2 vy e2 S2 ry
  exact ok.to S2 (rx.ext e2) ry (ok.mo (fun _ _ z => LQ.ext (e1.trans e2) z) hf)
theorem mo_op {f : D → D → AH → KD → Prop} (mo : ∀ {x y h} {Q Q' : KD}, (∀ d h, Q d h → Q' d h) → f x y h Q → f x y h Q') (ma : MoE wa) (mb : MoE wb) : MoE (wOp f wa wb) := fun ρ h Q Q' X X' hq hx q =>
  ma _ _ _ _ _ _ (fun x h1 q1 => mb _ _ _ _ _ _ (fun y h2 q2 => mo hq q2) hx q1) hx q
theorem ae_bin {op : Operator} {r : R2} {f : D → D → AH → KD → Prop} (ok : OpD X.K r f) (ho : OpR X (binaryOp op) r) (ha : AE X E a wa) (hb : AE X E b wb) : AE X E (.BinOp a op b pos) (wOp f wa wb) :=
  ⟨PE.imp (pe_op ho ha.run hb.run) fun σ H Q h => two ok ha hb h, mo_op ok.mo ha.mo hb.mo⟩
theorem ae_add (m : Bool) (ha : AE X E a wa) (hb : AE X E b wb) : AE X E (.BinOp a .Add b pos) (wOp (dAdd m) wa wb) := ae_bin dAdd_ok op_addD ha hb
theorem ae_sub (ha : AE X E a wa) (hb : AE X E b wb) : AE X E (.BinOp a .Sub b pos) (wOp dSub wa wb) := ae_bin dSub_ok op_sub ha hb
theorem ae_mul (m : Bool) (ha : AE X E a wa) (hb : AE X E b wb) : AE X E (.BinOp a .Mult b pos) (wOp (dMul m) wa wb) := ae_bin (r := rMul X.K) dMul_ok op_mulD ha hb
theorem ae_div (ha : AE X E a wa) (hb : AE X E b wb) : AE X E (.BinOp a .FloorDiv b pos) (wOp dDiv wa wb) := ae_bin dDiv_ok op_divD ha hb
theorem ae_mod (ha : AE X E a wa) (hb : AE X E b wb) : AE X E (.BinOp a .Mod b pos) (wOp dMod wa wb) := ae_bin dMod_ok op_mod ha hb
theorem ae_pow (ha : AE X E a wa) (hb : AE X E b wb) : AE X E (.BinOp a .Pow b pos) (wOp dPow wa wb) := ae_bin dPow_ok op_pow ha hb
theorem ae_neg (ha : AE X E a wa) : AE X E (.UnaryOp .USub a pos) (wNeg wa) := by
  refine ⟨PE.imp (pe_un un_neg ha.run) fun σ H Q ⟨F, ρ, g, S, R, q⟩ => ?_, fun ρ h Q Q' X X' hq hx q => ?_⟩
  · refine ⟨F, ρ, g, S, R, ha.mo _ _ _ _ _ _ (fun x h1 hx => ?_) (fun _ _ z => z) q⟩
    intro F1 H1 vx e1 S1 rx
    split at hx
    · cases rx; exact ⟨_, rfl, hx F1 H1 _ e1 S1 (.int _)⟩
    · exact hx.elim
  · refine ha.mo _ _ _ _ _ _ (fun x h1 q1 => ?_) hx q
    split at q1
    · exact hq _ _ q1
    · exact q1.elim
theorem ae_cmp {op : CmpOp} {r : R2} {f : D → D → AH → KD → Prop} (ok : OpD X.K r f) (ho : OpR X (compareOp op) r) (ha : AE X E a wa) (hb : AE X E b wb) (hm : behindInMarks op b = false := by first | exact nobehind _ (by decide) (by decide) | rfl) : AE X E (.Compare a [op] [b] pos) (wOp f wa wb) :=
  ⟨PE.imp (pe_cmpR ho ha.run hb.run hm) fun σ H Q h => two ok ha hb h, mo_op ok.mo ha.mo hb.mo⟩
theorem ae_lt (ha : AE X E a wa) (hb : AE X E b wb) : AE X E (.Compare a [.Lt] [b] pos) (wOp (dCmpI fun i j => decide (i < j)) wa wb) := ae_cmp dCmpI_ok op_lt ha hb
theorem ae_gt (ha : AE X E a wa) (hb : AE X E b wb) : AE X E (.Compare a [.Gt] [b] pos) (wOp (dCmpI fun i j => decide (j < i)) wa wb) := ae_cmp dCmpI_ok op_gt ha hb
theorem ae_eq (c : Cg gz X E k) (ha : AE X E a wa) (hb : AE X E b wb) : AE X E (.Compare a [.Eq] [b] pos) (wOp (dEq fun b => b) wa wb) := ae_cmp dEq_ok (op_eqF c.room.units) ha hb
theorem mo_chain {f g : D → D → AH → KD → Prop} (mf : ∀ {x y h} {Q Q' : KD}, (∀ d h, Q d h → Q' d h) → f x y h Q → f x y h Q') (mg : ∀ {x y h} {Q Q' : KD}, (∀ d h, Q d h → Q' d h) → g x y h Q → g x y h Q') (ma : MoE wa) (mb : MoE wb) (mc : MoE wc) : MoE (wChain f g wa wb wc) := fun ρ h Q Q' X X' hq hx q =>
  ma _ _ _ _ _ _ (fun x h1 q1 => mb _ _ _ _ _ _ (fun y h2 q2 => mf (fun z h3 q3 => by
    split at q3
    · split at q3
      · rename_i c; simp only [c, if_true]; exact mc _ _ _ _ _ _ (fun u h4 q4 => mg hq q4) hx q3
      · rename_i c; simp only [if_neg c]; exact hq _ _ q3
    · exact q3.elim) q2) hx q1) hx q
/-! ### tests -/
theorem at_val (ha : AE X E a wa) (he : ∀ whole, isTrue a X.env whole = (do let v ← whole; standAt a.pos; holding [v] (truthy v)) := by intro _; rfl) : AT X E a (wTest wa) := by
  refine ⟨PT.imp (pt_val ha.run he) fun σ H Q ⟨F, ρ, g, S, R, q⟩ => ?_, fun ρ h Q Q' X X' hq hx q => ?_⟩
  · refine ⟨F, ρ, g, S, R, ha.mo _ _ _ _ _ _ (fun x h1 hx => ?_) (fun _ _ z => z) q⟩
    intro F1 H1 vx e1 S1 rx
    split at hx
    · cases rx; exact ⟨_, rfl, hx F1 H1 e1 S1⟩
    · exact hx.elim
  · refine ha.mo _ _ _ _ _ _ (fun x h1 q1 => ?_) hx q
    split at q1
    · exact hq _ _ q1
    · exact q1.elim
theorem at_cmp {op : CmpOp} {r : R2} {f : D → D → AH → KD → Prop} (ok : OpD X.K r f) (ho : OpR X (compareOp op) r) (ha : AE X E a wa) (hb : AE X E b wb) (hm : behindInMarks op b = false := by first | exact nobehind _ (by decide) (by decide) | rfl) : AT X E (.Compare a [op] [b] pos) (wTest (wOp f wa wb)) := by
  have M : MoE (wOp f wa wb) := mo_op ok.mo ha.mo hb.mo
  refine ⟨PT.imp (pt_cmpR ho ha.run hb.run hm) fun σ H Q ⟨F, ρ, g, S, R, q⟩ => ?_, fun ρ h Q Q' X X' hq hx q => ?_⟩
  · refine two ok ha hb ⟨F, ρ, g, S, R, M _ _ _ _ _ _ (fun x h1 hx => ?_) (fun _ _ z => z) q⟩
    intro F1 H1 vx e1 S1 rx
    split at hx
    · cases rx; exact ⟨_, rfl, hx F1 H1 e1 S1⟩
    · exact hx.elim
  · refine M _ _ _ _ _ _ (fun x h1 q1 => ?_) hx q
    split at q1
    · exact hq _ _ q1
    · exact q1.elim
theorem at_lt (ha : AE X E a wa) (hb : AE X E b wb) : AT X E (.Compare a [.Lt] [b] pos) (wTest (wOp (dCmpI fun i j => decide (i < j)) wa wb)) := at_cmp dCmpI_ok op_lt ha hb
theorem at_gt (ha : AE X E a wa) (hb : AE X E b wb) : AT X E (.Compare a [.Gt] [b] pos) (wTest (wOp (dCmpI fun i j => decide (j < i)) wa wb)) := at_cmp dCmpI_ok op_gt ha hb
theorem at_ge (ha : AE X E a wa) (hb : AE X E b wb) : AT X E (.Compare a [.GtE] [b] pos) (wTest (wOp (dCmpI fun i j => decide (j ≤ i)) wa wb)) := at_cmp dCmpI_ok op_ge ha hb
theorem at_eq (c : Cg gz X E k) (ha : AE X E a wa) (hb : AE X E b wb) : AT X E (.Compare a [.Eq] [b] pos) (wTest (wOp (dEq fun b => b) wa wb)) := at_cmp dEq_ok (op_eqF c.room.units) ha hb
theorem at_ne (c : Cg gz X E k) (ha : AE X E a wa) (hb : AE X E b wb) : AT X E (.Compare a [.NotEq] [b] pos) (wTest (wOp (dEq fun b => !b) wa wb)) := at_cmp dEq_ok (op_neF c.room.units) ha hb
theorem mo_and {a b : WT} (ma : MoT a) (mb : MoT b) : MoT (wAnd a b) := fun ρ h Q Q' X X' hq hx q => ma _ _ _ _ _ _ (fun c h1 q1 => by
  split at q1
  · rename_i e; rw [if_pos e]; exact mb _ _ _ _ _ _ hq hx q1
  · rename_i e; rw [if_neg e]; exact hq _ _ q1) hx q
theorem mo_or {a b : WT} (ma : MoT a) (mb : MoT b) : MoT (wOr a b) := fun ρ h Q Q' X X' hq hx q => ma _ _ _ _ _ _ (fun c h1 q1 => by
  split at q1
  · rename_i e; rw [if_pos e]; exact hq _ _ q1
  · rename_i e; rw [if_neg e]; exact mb _ _ _ _ _ _ hq hx q1) hx q
theorem AW.at (h : AW X E a ta) : AT X E a ta := ⟨h.run.pt, h.mo⟩
theorem aw_and1 (ha : AT X E a ta) : AW X E (.BoolOp .And [a] pos) ta := ⟨pw_and1 ha.run, ha.mo⟩
theorem aw_or1 (ha : AT X E a ta) : AW X E (.BoolOp .Or [a] pos) ta := ⟨pw_or1 ha.run, ha.mo⟩
theorem aw_and {rest : List Expr} (ha : AT X E a ta) (hb : AW X E (.BoolOp .And (b :: rest) pos) tb) : AW X E (.BoolOp .And (a :: b :: rest) pos) (wAnd ta tb) := by
  refine ⟨PW.imp (pw_and ha.run hb.run) fun σ H Q ⟨F, ρ, g, S, R, q⟩ => ?_, mo_and ha.mo hb.mo⟩
  refine ⟨F, ρ, g, S, R, ha.mo _ _ _ _ _ _ (fun x h1 hx => ?_) (fun _ _ z => z) q⟩
  intro F1 H1 e1 S1
  split at hx
  · rename_i e; rw [if_pos e]
    exact ⟨F1, ρ, h1, S1, R.ext e1, hb.mo _ _ _ _ _ _ (fun _ _ z => LB.ext e1 z) (fun _ _ z => LX.ext e1 z) hx⟩
  · rename_i e; rw [if_neg e]
    exact hx F1 H1 e1 S1
theorem aw_or {rest : List Expr} (ha : AT X E a ta) (hb : AW X E (.BoolOp .Or (b :: rest) pos) tb) : AW X E (.BoolOp .Or (a :: b :: rest) pos) (wOr ta tb) := by
  refine ⟨PW.imp (pw_or ha.run hb.run) fun σ H Q ⟨F, ρ, g, S, R, q⟩ => ?_, mo_or ha.mo hb.mo⟩
  refine ⟨F, ρ, g, S, R, ha.mo _ _ _ _ _ _ (fun x h1 hx => ?_) (fun _ _ z => z) q⟩
  intro F1 H1 e1 S1
  split at hx
  · rename_i e; rw [if_pos e]
    exact hx F1 H1 e1 S1
  · rename_i e; rw [if_neg e]
    exact ⟨F1, ρ, h1, S1, R.ext e1, hb.mo _ _ _ _ _ _ (fun _ _ z => LB.ext e1 z) (fun _ _ z => LX.ext e1 z) hx⟩
theorem at_not (ha : AT X E a ta) : AT X E (.UnaryOp .Not a pos) (wNot ta) := by
  refine ⟨PT.imp (pt_not ha.run) fun σ H Q ⟨F, ρ, g, S, R, q⟩ => ?_, fun ρ h Q Q' X X' hq hx q => ha.mo _ _ _ _ _ _ (fun c h1 q1 => hq _ _ q1) hx q⟩
  exact ⟨F, ρ, g, S, R, ha.mo _ _ _ _ _ _ (fun x h1 hx F1 H1 e1 S1 => hx F1 H1 e1 S1) (fun _ _ z => z) q⟩
/-! ### and, or, not as values -/
theorem ae_one {op} (ha : AE X E a wa) : AE X E (.BoolOp op [a] pos) wa := ⟨pe_one ha.run, ha.mo⟩
theorem ae_and {rest : List Expr} (ha : AE X E a wa) (hb : AE X E (.BoolOp .And (b :: rest) pos) wb) : AE X E (.BoolOp .And (a :: b :: rest) pos) (wAndV wa wb) := by
  refine ⟨PE.imp (pe_and ha.run hb.run) fun σ H Q ⟨F, ρ, g, S, R, q⟩ => ?_, fun ρ h Q Q' X X' hq hx q => ?_⟩
  · refine ⟨F, ρ, g, S, R, ha.mo _ _ _ _ _ _ (fun x h1 hx => ?_) (fun _ _ z => z) q⟩
    intro F1 H1 vx e1 S1 rx
    split at hx
    · cases rx
      refine ⟨_, rfl, ?_⟩
      split at hx
      · rename_i e; rw [if_pos e]
        exact ⟨F1, ρ, h1, S1, R.ext e1, hb.mo _ _ _ _ _ _ (fun _ _ z => LQ.ext e1 z) (fun _ _ z => LX.ext e1 z) hx⟩
      · rename_i e; rw [if_neg e]
        exact hx F1 H1 _ e1 S1 (.bl _)
    · exact hx.elim
  · refine ha.mo _ _ _ _ _ _ (fun x h1 q1 => ?_) hx q
    split at q1
    · split at q1
      · rename_i e; simp only [if_pos e]; exact hb.mo _ _ _ _ _ _ hq hx q1
      · rename_i e; simp only [if_neg e]; exact hq _ _ q1
    · exact q1.elim
theorem ae_not (ha : AE X E a wa) : AE X E (.UnaryOp .Not a pos) (wNotV wa) := by
  refine ⟨PE.imp (pe_not ha.run) fun σ H Q ⟨F, ρ, g, S, R, q⟩ => ?_, fun ρ h Q Q' X X' hq hx q => ?_⟩
  · refine ⟨F, ρ, g, S, R, ha.mo _ _ _ _ _ _ (fun x h1 hx => ?_) (fun _ _ z => z) q⟩
    intro F1 H1 vx e1 S1 rx
    split at hx
    · cases rx; exact ⟨_, rfl, hx F1 H1 _ e1 S1 (.bl _)⟩
    · exact hx.elim
  · refine ha.mo _ _ _ _ _ _ (fun x h1 q1 => ?_) hx q
    split at q1
    · exact hq _ _ q1
    · exact q1.elim
theorem ae_if {c : Expr} (hc : AT X E c ta) (ha : AE X E a wa) (hb : AE X E b wb) : AE X E (.IfExp c a b pos) (wIf ta wa wb) := by
  refine ⟨PE.imp (pe_ifExp hc.run ha.run hb.run) fun σ H Q ⟨F, ρ, g, S, R, q⟩ => ?_, fun ρ h Q Q' X X' hq hx q => hc.mo _ _ _ _ _ _ (fun c h1 q1 => ?_) hx q⟩
  · refine ⟨F, ρ, g, S, R, hc.mo _ _ _ _ _ _ (fun x h1 hx => ?_) (fun _ _ z => z) q⟩
    intro F1 H1 e1 S1
    split at hx
    · rename_i e; rw [if_pos e]
      exact ⟨F1, ρ, h1, S1, R.ext e1, ha.mo _ _ _ _ _ _ (fun _ _ z => LQ.ext e1 z) (fun _ _ z => LX.ext e1 z) hx⟩
    · rename_i e; rw [if_neg e]
      exact ⟨F1, ρ, h1, S1, R.ext e1, hb.mo _ _ _ _ _ _ (fun _ _ z => LQ.ext e1 z) (fun _ _ z => LX.ext e1 z) hx⟩
  · split at q1
    · rename_i e; rw [if_pos e]; exact ha.mo _ _ _ _ _ _ hq hx q1
    · rename_i e; rw [if_neg e]; exact hb.mo _ _ _ _ _ _ hq hx q1
/-! ### argument lists, displays -/
theorem aa_nil : AA X E [] wNil := ⟨PA.imp pa_nil fun σ H Q ⟨F, ρ, g, S, R, q⟩ => q F H [] (.refl F) S .nil, fun ρ h Q Q' X X' hq hx q => hq _ _ q⟩
theorem aa_cons (ha : AE X E e wa) (hr : AA X E es wl) (hs : starEach (e :: es) X.env = (false, eval e X.env) :: starEach es X.env := by rfl) : AA X E (e :: es) (wCons wa wl) := by
  refine ⟨PA.imp (pa_cons ha.run hr.run hs) fun σ H Q ⟨F, ρ, g, S, R, q⟩ => ?_, fun ρ h Q Q' X X' hq hx q => ha.mo _ _ _ _ _ _ (fun x h1 q1 => hr.mo _ _ _ _ _ _ (fun xs h2 q2 => hq _ _ q2) hx q1) hx q⟩
  refine ⟨F, ρ, g, S, R, ha.mo _ _ _ _ _ _ (fun x h1 hx => ?_) (fun _ _ z => z) q⟩
  intro F1 H1 vx e1 S1 rx
  refine ⟨F1, ρ, h1, S1, R.ext e1, hr.mo _ _ _ _ _ _ (fun xs h2 h3 => ?_) (fun _ _ z => LX.ext e1 z) hx⟩
  intro F2 H2 vs e2 S2 rs
  exact h3 F2 H2 _ (e1.trans e2) S2 (.cons (rx.ext e2) rs)
theorem ae_tup {x1} (h : AA X E es wl) : AE X E (.Tuple es x1 pos) (wTup wl) := by
  refine ⟨PE.imp (pe_tup h.run) fun σ H Q ⟨F, ρ, g, S, R, q⟩ => ?_, fun ρ h0 Q Q' X X' hq hx q => h.mo _ _ _ _ _ _ (fun x h1 q1 => ⟨q1.1, hq _ _ q1.2⟩) hx q⟩
  refine ⟨F, ρ, g, S, R, h.mo _ _ _ _ _ _ (fun xs h1 hx => ?_) (fun _ _ z => z) q⟩
  intro F1 H1 vs e1 S1 rs
  exact ⟨by rw [← rs.length]; exact hx.1, S1.newT rs (LQ.ext e1 hx.2)⟩
theorem ae_lst (m : Bool) (h : AA X E es wl) : AE X E (.List es pos) (wLst m wl) := by
  refine ⟨PE.imp (pe_lst h.run) fun σ H Q ⟨F, ρ, g, S, R, q⟩ => ?_, fun ρ h0 Q Q' X X' hq hx q => h.mo _ _ _ _ _ _ (fun x h1 q1 => ⟨q1.1, newL_mo hq q1.2⟩) hx q⟩
  refine ⟨F, ρ, g, S, R, h.mo _ _ _ _ _ _ (fun xs h1 hx => ?_) (fun _ _ z => z) q⟩
  intro F1 H1 vs e1 S1 rs
  exact ⟨by rw [← rs.length]; exact hx.1, S1.newL rs (newL_mo (fun _ _ z => LQ.ext e1 z) hx.2)⟩
/-! ### calls -/
theorem ae_call {n j : Nat} {gg : List D → List D → List D} {S : FSpec} {x : Str} {p : Pos} (c : Cg gz X E k) (C : Cal gy X.prog X.w X.K X.mg X.base x j n [] gg S) (hj : j ≤ k) (hz : gy = true → gz = true) (ha : AA X E (e :: es) wl)
    (hg : Gl X x := by rfl) (hdb : (x == ("__debug__" : Str)) = false := by decide) (he : starEach (e :: es) X.env = (false, eval e X.env) :: starEach es X.env := by rfl)
    (hpl : (backTo pos (starEach es X.env)).any (·.1) = false := by rfl) : AE X E (.Call (.Name x p) (e :: es) [] pos) (wCallP S n gg wl) := by
  obtain ⟨f, fd, ps, hm, hk, G, B⟩ := C.ex
  refine ⟨⟨fun pins s σ H Q I hq => ?_⟩, fun ρ h0 Q Q' X X' hq hx q => ha.mo _ _ _ _ _ _ (fun x h1 q1 => ⟨q1.1, G.mo _ _ _ _ _ _ hq hx q1.2⟩) hx q⟩
  obtain ⟨F, ρ, g, S0, R, q⟩ := hq
  refine wpAny_Call_Name_kw (ld_glob I hg hm ?_ hdb)
  refine PySem.W.callWith_K (h₀ := X.base) I.ok.mod.kin hk
    (thn (ha.run.run pos pins s σ H (fun vs H1 => ∃ F1 h1 ds, Sim X.K F1 h1 H1 ∧ Reps X.K F1 ds vs ∧ ds.length = n ∧ S (gg ds []) h1 (LQ X.K F1 Q) (LX X.K F1 E)) I
      ⟨F, ρ, g, S0, R, ha.mo _ _ _ _ _ _ (fun ds h1 q1 F1 H1 vs e1 S1 rs => ⟨F1, h1, ds, S1, rs, q1.1, G.mo _ _ _ _ _ _ (fun _ _ z => LQ.ext e1 z) (fun _ _ z => LX.ext e1 z) q1.2⟩) (fun _ _ z => z) q⟩) fun us s1 hh => ?_) he hpl
  obtain ⟨vs, H1, I1, r1, F1, h1, ds, S1, rs, l, q1⟩ := hh
  refine ⟨I1.kIn, ?_⟩
  obtain ⟨xs, ts, rx, rt, bt⟩ := B.to s1 F1 ds [] vs [] us [] I1.kIn l rfl rs r1 .nil .nil
  exact wpAny_call (codeAny_mono (run_g (c.mono hj) G hz I1 bt rt ⟨F1, _, h1, S1, rx, q1⟩) fun r s' hr => by
    match r, hr with
    | .error _, hr => exact hr
    | .ok (.ret _), hr => exact hr)
/-- a built-in by values -/
structure CaD (X : Cx) (f : Value) (r : List D → AH → KD → Prop) : Prop where
  ex : ∃ rv, CallR X f rv ∧ ∀ {F h H ds vs} {Q : VK}, Sim X.K F h H → Reps X.K F ds vs → r ds h (LQ X.K F Q) → rv vs H Q
  mo : ∀ {ds h} {Q Q' : KD}, (∀ d h, Q d h → Q' d h) → r ds h Q → r ds h Q'
theorem ae_b {id : String} {x : Str} {p : Pos} {r : List D → AH → KD → Prop} (C : CaD X (.builtin id) r) (hm : X.mg x = none) (hv : bootBuiltins x = some (.builtin id)) (ha : AA X E (e :: es) wl)
    (hg : Gl X x := by rfl) (hn : x ≠ "__name__" := by decide) (hdb : (x == ("__debug__" : Str)) = false := by decide)
    (he : starEach (e :: es) X.env = (false, eval e X.env) :: starEach es X.env := by rfl) (hpl : (backTo pos (starEach es X.env)).any (·.1) = false := by rfl) : AE X E (.Call (.Name x p) (e :: es) [] pos) (wB r wl) := by
  obtain ⟨rv, hc, to⟩ := C.ex
  refine ⟨PE.imp (pe_callB hc hg hm hv ha.run hn hdb he hpl) fun σ H Q ⟨F, ρ, g, S, R, q⟩ => ?_, fun ρ h0 Q Q' X X' hq hx q => ha.mo _ _ _ _ _ _ (fun x h1 q1 => C.mo hq q1) hx q⟩
  exact ⟨F, ρ, g, S, R, ha.mo _ _ _ _ _ _ (fun ds h1 q1 F1 H1 vs e1 S1 rs => to S1 rs (C.mo (fun _ _ z => LQ.ext e1 z) q1)) (fun _ _ z => z) q⟩
theorem ae_bt {T : String} {x : Str} {p : Pos} {r : List D → AH → KD → Prop} (C : CaD X (.type T) r) (hm : X.mg x = none) (hv : bootBuiltins x = some (.type T)) (ha : AA X E (e :: es) wl)
    (hg : Gl X x := by rfl) (hn : x ≠ "__name__" := by decide) (hdb : (x == ("__debug__" : Str)) = false := by decide)
    (he : starEach (e :: es) X.env = (false, eval e X.env) :: starEach es X.env := by rfl) (hpl : (backTo pos (starEach es X.env)).any (·.1) = false := by rfl) : AE X E (.Call (.Name x p) (e :: es) [] pos) (wB r wl) := by
  obtain ⟨rv, hc, to⟩ := C.ex
  refine ⟨PE.imp (pe_callTy hc hg hm hv ha.run hn hdb he hpl) fun σ H Q ⟨F, ρ, g, S, R, q⟩ => ?_, fun ρ h0 Q Q' X X' hq hx q => ha.mo _ _ _ _ _ _ (fun x h1 q1 => C.mo hq q1) hx q⟩
  exact ⟨F, ρ, g, S, R, ha.mo _ _ _ _ _ _ (fun ds h1 q1 F1 H1 vs e1 S1 rs => to S1 rs (C.mo (fun _ _ z => LQ.ext e1 z) q1)) (fun _ _ z => z) q⟩
end
end DL
namespace DL
open PySem PySem.Spec L2
/-! ### statements over data -/
def wSkip : WS := fun D ρ h => D.nx ρ h
def wSeq (a b : WS) : WS := fun D ρ h => a { D with nx := b D } ρ h
def wExpr (a : WE) : WS := fun D ρ h => a ρ h (fun _ h1 => D.nx ρ h1) D.ex
def wRet (a : WE) : WS := fun D ρ h => a ρ h D.rt D.ex
def wRetN : WS := fun D _ h => D.rt .non h
def wIfS (t : WT) (a b : WS) : WS := fun D ρ h => t ρ h (fun c h1 => if c = true then a D ρ h1 else b D ρ h1) D.ex
def wNever : WS := fun _ _ _ => False
abbrev WG := D → EnvD → AH → (EnvD → AH → Prop) → KX → Prop
abbrev WGs := List D → EnvD → AH → (EnvD → AH → Prop) → KX → Prop
def gN (i : Nat) : WG := fun d ρ h Q _ => Q (ρ.set i (some d)) h
def gsNil : WGs := fun ds ρ h Q _ => ds = [] ∧ Q ρ h
def gsCons (g : WG) (r : WGs) : WGs := fun ds ρ h Q X => ∃ d ds', ds = d :: ds' ∧ g d ρ h (fun ρ1 h1 => r ds' ρ1 h1 Q X) X
def gT (n : Nat) (r : WGs) : WG := fun d ρ h Q X => ∃ xs, d = .tup xs ∧ xs.length = n ∧ r xs ρ h Q X
def wAsg (a : WE) (g : WG) : WS := fun D ρ h => a ρ h (fun x h1 => g x ρ h1 D.nx D.ex) D.ex
def wPar (i j : Nat) (a : WA) : WS := fun D ρ h => a ρ h (fun ds h1 => ∃ x y, ds = [x, y] ∧ D.nx ((ρ.set i (some x)).set j (some y)) h1) D.ex
def MoG (g : WG) : Prop := ∀ d ρ h Q Q' X X', (∀ ρ h, Q ρ h → Q' ρ h) → (∀ x h, X x h → X' x h) → g d ρ h Q X → g d ρ h Q' X'
def MoGs (g : WGs) : Prop := ∀ d ρ h Q Q' X X', (∀ ρ h, Q ρ h → Q' ρ h) → (∀ x h, X x h → X' x h) → g d ρ h Q X → g d ρ h Q' X'
def tG (K : PySem.W.Frag) (E : XK) (g : WG) : TG := fun v σ H Q => ∃ F ρ h d, Sim K F h H ∧ EnvR K F ρ σ ∧ Rep K F d v ∧ g d ρ h (LS K F Q) (LX K F E)
def tGs (K : PySem.W.Frag) (E : XK) (g : WGs) : TGs := fun v σ H Q => ∃ F ρ h d, Sim K F h H ∧ EnvR K F ρ σ ∧ Reps K F d v ∧ g d ρ h (LS K F Q) (LX K F E)
structure AG (X : Cx) (E : XK) (e : Expr) (g : WG) : Prop where
  run : PG X e (tG X.K E g)
  mo : MoG g
structure AGs (X : Cx) (E : XK) (es : List Expr) (g : WGs) : Prop where
  run : PGs X es (tGs X.K E g)
  mo : MoGs g
theorem PG.imp {X : Cx} {e : Expr} {t t' : TG} (p : PG X e t) (h : ∀ v σ H Q, t' v σ H Q → t v σ H Q) : PG X e t' := ⟨fun pins s σ H v u Q I r q => p.run pins s σ H v u Q I r (h _ _ _ _ q)⟩
theorem PGs.imp {X : Cx} {e : List Expr} {t t' : TGs} (p : PGs X e t) (h : ∀ v σ H Q, t' v σ H Q → t v σ H Q) : PGs X e t' := ⟨fun pins s σ H v u Q I r q => p.run pins s σ H v u Q I r (h _ _ _ _ q)⟩
section
variable {X : Cx} {E : XK} {k : Nat} {a b e : Expr} {es : List Expr} {wa wb wc : WE} {ta : WT} {wl : WA} {pos : Pos} {st : Stmt} {rest : List Stmt} {s1 s2 : WS}
theorem Le.nx {D D' : EndsD} (l : D.Le D') (q : ∀ ρ h, D.nx ρ h → D'.nx ρ h) : D.Le D' := ⟨q, l.rt, l.bk, l.ct, l.ex⟩
theorem ass_nil : ASs X E [] wSkip := ⟨PSs.imp pss_nil fun D σ H ⟨F, ρ, h, S, R, q⟩ => q F H σ (.refl F) S R, fun D D' ρ h l q => l.nx _ _ q⟩
theorem mo_seq (h1 : MoS s1) (h2 : MoS s2) : MoS (wSeq s1 s2) := fun D D' ρ h l q => h1 { D with nx := s2 D } { D' with nx := s2 D' } _ _ ⟨fun ρ h z => h2 _ _ _ _ l z, l.rt, l.bk, l.ct, l.ex⟩ q
theorem ass_cons (h1 : AS X E st s1) (h2 : ASs X E rest s2) : ASs X E (st :: rest) (wSeq s1 s2) := by
  refine ⟨PSs.imp (pss_cons h1.run h2.run) fun D σ H ⟨F, ρ, h, S, R, q⟩ => ?_, mo_seq h1.mo h2.mo⟩
  refine ⟨F, ρ, h, S, R, h1.mo { LD X.K F D E with nx := s2 (LD X.K F D E) } _ _ _ ⟨fun ρ1 g1 z => ?_, fun _ _ z => z, fun _ _ z => z, fun _ _ z => z, fun _ _ z => z⟩ q⟩
  intro F1 H1 σ1 e1 S1 R1
  exact ⟨F1, ρ1, g1, S1, R1, h2.mo _ _ _ _ (LD.ext e1) z⟩
theorem ass_one (h1 : AS X E st s1) : ASs X E [st] s1 := ⟨PSs.imp (pss_one h1.run) fun D σ H q => q, h1.mo⟩
theorem as_never : AS X E st wNever := ⟨PS.imp ps_never fun D σ H ⟨_, _, _, _, _, q⟩ => q, fun _ _ _ _ _ q => q⟩
theorem as_expr (he : AE X E e wa) (hs : swapsWith e none pos.line X.env = pure false := by rfl) : AS X E (.Expr e pos) (wExpr wa) := by
  refine ⟨PS.imp (ps_expr he.run hs) fun D σ H ⟨F, ρ, h, S, R, q⟩ => ?_, fun D D' ρ h l q => he.mo _ _ _ _ _ _ (fun _ _ z => l.nx _ _ z) l.ex q⟩
  refine ⟨F, ρ, h, S, R, he.mo _ _ _ _ _ _ (fun d h1 z => ?_) (fun _ _ z => z) q⟩
  intro F1 H1 v e1 S1 _
  exact z F1 H1 σ e1 S1 (R.ext e1)
theorem as_ret (he : AE X E e wa) : AS X E (.Return (some e) pos) (wRet wa) :=
  ⟨PS.imp (ps_ret he.run) fun D σ H ⟨F, ρ, h, S, R, q⟩ => ⟨F, ρ, h, S, R, q⟩, fun D D' ρ h l q => he.mo _ _ _ _ _ _ l.rt l.ex q⟩
theorem as_if {c : Expr} {A B : List Stmt} (hc : AT X E c ta) (ha : ASs X E A s1) (hb : ASs X E B s2) : AS X E (.If c A B pos) (wIfS ta s1 s2) := by
  refine ⟨PS.imp (ps_if hc.run ha.run hb.run) fun D σ H ⟨F, ρ, h, S, R, q⟩ => ?_, fun D D' ρ h l q => hc.mo _ _ _ _ _ _ (fun c h1 q1 => ?_) l.ex q⟩
  · refine ⟨F, ρ, h, S, R, hc.mo _ _ _ _ _ _ (fun x h1 hx => ?_) (fun _ _ z => z) q⟩
    intro F1 H1 e1 S1
    split at hx
    · rename_i e; rw [if_pos e]; exact ⟨F1, ρ, h1, S1, R.ext e1, ha.mo _ _ _ _ (LD.ext e1) hx⟩
    · rename_i e; rw [if_neg e]; exact ⟨F1, ρ, h1, S1, R.ext e1, hb.mo _ _ _ _ (LD.ext e1) hx⟩
  · split at q1
    · rename_i e; rw [if_pos e]; exact ha.mo _ _ _ _ l q1
    · rename_i e; rw [if_neg e]; exact hb.mo _ _ _ _ l q1
/-! ### targets -/
theorem ag_name (i : Nat) {x : Str} (hN : X.N.Nodup) (hi : X.N[i]? = some x := by rfl) (hx : Loc X.env.scope x := by first | exact Or.inl rfl | exact Or.inr rfl) (hf : X.fn x = true ∨ X.env.scope.names.lookup x = some .local := by first | exact .inl rfl | exact .inr rfl) : AG X E (.Name x pos) (gN i) := by
  refine ⟨PG.imp (pg_name hN hi hx hf) fun v σ H Q ⟨F, ρ, h, d, S, R, r, q⟩ => q F H _ (.refl F) S (R.set r i), fun d ρ h Q Q' X X' hq _ q => hq _ _ q⟩
theorem ags_nil : AGs X E [] gsNil := by
  refine ⟨PGs.imp pgs_nil fun v σ H Q ⟨F, ρ, h, d, S, R, r, q⟩ => ?_, fun d ρ h Q Q' X X' hq _ q => ⟨q.1, hq _ _ q.2⟩⟩
  obtain ⟨rfl, q⟩ := q
  cases r
  exact ⟨rfl, q F H _ (.refl F) S R⟩
theorem ags_cons {g : WG} {gr : WGs} (h1 : AG X E e g) (h2 : AGs X E es gr) (hs : (assignEach (e :: es) X.env).map (·.2) = assign e X.env :: (assignEach es X.env).map (·.2) := by rfl) : AGs X E (e :: es) (gsCons g gr) := by
  refine ⟨PGs.imp (pgs_cons h1.run h2.run hs) fun v σ H Q ⟨F, ρ, h, d, S, R, r, q⟩ => ?_, fun d ρ h Q Q' X X' hq hx q => ?_⟩
  · obtain ⟨x, xs, rfl, q⟩ := q
    cases r with
    | cons r rr =>
      refine ⟨_, _, rfl, F, ρ, h, x, S, R, r, h1.mo _ _ _ _ _ _ _ (fun ρ1 g1 z => ?_) (fun _ _ z => z) q⟩
      intro F1 H1 σ1 e1 S1 R1
      exact ⟨F1, ρ1, g1, xs, S1, R1, rr.ext e1, h2.mo _ _ _ _ _ _ _ (fun _ _ z => LS.ext e1 z) (fun _ _ z => LX.ext e1 z) z⟩
  · obtain ⟨x, xs, e, q⟩ := q
    exact ⟨x, xs, e, h1.mo _ _ _ _ _ _ _ (fun ρ1 g1 z => h2.mo _ _ _ _ _ _ _ hq hx z) hx q⟩
theorem ag_tup {k2 n : Nat} {gr : WGs} (hc : X.calm = true) (h : AGs X E es gr) (hn : (assignEach es X.env).length = n := by rfl) (hst : (assignEach es X.env).findIdx? (·.1) = none := by rfl) : AG X E (.Tuple es k2 pos) (gT n gr) := by
  refine ⟨PG.imp (pg_tup hc h.run hn hst) fun v σ H Q ⟨F, ρ, g, d, S, R, r, q⟩ => ?_, fun d ρ g Q Q' X X' hq hx q => ?_⟩
  · obtain ⟨xs, rfl, l, q⟩ := q
    cases r with
    | @tup a _ vs hs rs => exact ⟨a, vs, rfl, sqt_of S.fz hs, by rw [← rs.length]; exact l, F, ρ, g, xs, S, R, rs, q⟩
  · obtain ⟨xs, e, l, q⟩ := q
    exact ⟨xs, e, l, h.mo _ _ _ _ _ _ _ hq hx q⟩
theorem mo_asg {g : WG} (h1 : MoE wa) (h2 : MoG g) : MoS (wAsg wa g) := fun D D' ρ h l q => h1 _ _ _ _ _ _ (fun x h1 z => h2 _ _ _ _ _ _ _ l.nx l.ex z) l.ex q
theorem to_asg {g : WG} (he : AE X E e wa) (hg : AG X E a g) {D : Ends} {σ : L2.St} {H : Hp} (q : tS X.K E (wAsg wa g) D σ H) : tAsg (tE X.K E wa) (tG X.K E g) D σ H := by
  obtain ⟨F, ρ, h, S, R, q⟩ := q
  refine ⟨F, ρ, h, S, R, he.mo _ _ _ _ _ _ (fun x h1 z => ?_) (fun _ _ z => z) q⟩
  intro F1 H1 v e1 S1 r
  exact ⟨F1, ρ, h1, x, S1, R.ext e1, r, hg.mo _ _ _ _ _ _ _ (fun _ _ z => LS.ext e1 z) (fun _ _ z => LX.ext e1 z) z⟩
theorem as_asg {tg : Expr} {g : WG} (he : AE X E e wa) (hg : AG X E tg g) (hs : swapsWithSole [tg] e pos.line X.env = pure false := by rfl) (hw : swappedStores [tg] e X.env = pure none := by rfl)
    (h1 : (assignEach [tg] X.env).map (·.2) = [assign tg X.env] := by rfl) : AS X E (.Assign [tg] e pos) (wAsg wa g) :=
  ⟨PS.imp (ps_asg he.run hg.run hs hw h1) fun D σ H q => to_asg he hg q, mo_asg he.mo hg.mo⟩
/-- name = value -/
theorem as_set (i : Nat) {x : Str} {pos' : Pos} (hN : X.N.Nodup) (he : AE X E e wa) (hi : X.N[i]? = some x := by rfl) (hx : Loc X.env.scope x := by first | exact Or.inl rfl | exact Or.inr rfl) (hs : swapsWith e (some (.Name x pos')) pos.line X.env = pure false := by rfl)
    (hf : X.fn x = true ∨ X.env.scope.names.lookup x = some .local := by first | exact .inl rfl | exact .inr rfl) : AS X E (.Assign [.Name x pos'] e pos) (wAsg wa (gN i)) := by
  have ag : AG X E (.Name x pos') (gN i) := ag_name i hN hi hx hf
  refine ⟨PS.imp (ps_set hN hi hx he.run hs hf) fun D σ H q => ?_, mo_asg he.mo ag.mo⟩
  obtain ⟨F, ρ, h, S, R, q⟩ := q
  refine ⟨F, ρ, h, S, R, he.mo _ _ _ _ _ _ (fun x h1 z => ?_) (fun _ _ z => z) q⟩
  intro F1 H1 v e1 S1 r
  exact z F1 H1 _ e1 S1 ((R.ext e1).set r i)
theorem as_par (i j : Nat) {x y : Str} {px py pt : Pos} {kt k2 pt2} (c : Cg gz X E k) (hij : i ≠ j) (ha : AA X E [a, b] wl)
    (hi : X.N[i]? = some x := by rfl) (hj : X.N[j]? = some y := by rfl)
    (hx : X.env.scope.names.lookup x = some .local := by rfl) (hy : X.env.scope.names.lookup y = some .local := by rfl)
    (hw : swappedStores [.Tuple [.Name x px, .Name y py] kt pt] (.Tuple [a, b] k2 pt2) X.env = pure (some [x, y]) := by rfl)
    (hs : swapsWithSole [.Tuple [.Name x px, .Name y py] kt pt] (.Tuple [a, b] k2 pt2) pos.line X.env = pure false := by rfl) :
    AS X E (.Assign [.Tuple [.Name x px, .Name y py] kt pt] (.Tuple [a, b] k2 pt2) pos) (wPar i j wl) := by
  refine ⟨PS.imp (ps_par c.calm c.nd hi hj hij hx hy ha.run hw hs) fun D σ H ⟨F, ρ, h, S, R, q⟩ => ?_, fun D D' ρ h l q => ha.mo _ _ _ _ _ _ (fun ds h1 ⟨x, y, e, z⟩ => ⟨x, y, e, l.nx _ _ z⟩) l.ex q⟩
  refine ⟨F, ρ, h, S, R, ha.mo _ _ _ _ _ _ (fun ds h1 z => ?_) (fun _ _ z => z) q⟩
  intro F1 H1 vs e1 S1 rs
  obtain ⟨x, y, rfl, z⟩ := z
  cases rs with
  | cons r1 rs =>
    cases rs with
    | cons r2 rs =>
      cases rs
      exact ⟨_, _, rfl, z F1 H1 _ e1 S1 (((R.ext e1).set r1 i).set r2 j)⟩
end
/-! ### while -/
/-! ### what is walked -/
structure ItD (K : PySem.W.Frag) (F : Hp) (J : It) (xs : List D) (st : AH → Prop) : Prop where
  go : ∀ {i F' h H}, Ext F F' → Sim K F' h H → st h → i < xs.length → J.go i H
  stop : ∀ {i F' h H}, Ext F F' → Sim K F' h H → st h → xs.length = i → J.stop i H
  yld : ∀ {i F' h H x H' d}, Ext F F' → Sim K F' h H → st h → J.yld i H x H' → xs[i]? = some d → ∃ F'', Ext F' F'' ∧ Sim K F'' h H' ∧ Rep K F'' d x
abbrev WI := EnvD → AH → (List D → (AH → Prop) → AH → Prop) → KX → Prop
def MoI (w : WI) : Prop := ∀ ρ h Q Q' X X', (∀ xs st h, Q xs st h → Q' xs st h) → (∀ x h, X x h → X' x h) → w ρ h Q X → w ρ h Q' X'
def LI (K : PySem.W.Frag) (F : Hp) (R : It → Hp → Prop) : List D → (AH → Prop) → AH → Prop := fun xs st h => ∀ F' H' J, Ext F F' → Sim K F' h H' → ItD K F' J xs st → R J H'
def tI (K : PySem.W.Frag) (E : XK) (w : WI) : TI := fun σ H R => ∃ F ρ h, Sim K F h H ∧ EnvR K F ρ σ ∧ w ρ h (LI K F R) (LX K F E)
structure AI (X : Cx) (E : XK) (tg iter : Expr) (w : WI) : Prop where
  run : PI X tg iter (tI X.K E w)
  mo : MoI w
theorem PI.imp {X : Cx} {tg e : Expr} {t t' : TI} (p : PI X tg e t) (h : ∀ σ H Q, t' σ H Q → t σ H Q) : PI X tg e t' := ⟨fun pins s σ H Q I q => p.run pins s σ H Q I (h _ _ _ q)⟩
def loopD (st : AH → Prop) (g : WG) (tb : WS) (Z : EndsD) : List D → EnvD → AH → Prop
  | [], ρ, h => st h ∧ Z.nx ρ h
  | x :: r, ρ, h => st h ∧ g x ρ h (fun ρ2 h2 => tb { Z with nx := loopD st g tb Z r, ct := loopD st g tb Z r, bk := Z.nx } ρ2 h2) Z.ex
def wFor (wi : WI) (g : WG) (tb : WS) : WS := fun D ρ h => wi ρ h (fun xs st h1 => loopD st g tb D xs ρ h1) D.ex
theorem loopD_mo {st : AH → Prop} {g : WG} {tb : WS} (mg : MoG g) (mb : MoS tb) {Z Z' : EndsD} (l : Z.Le Z') : ∀ (xs : List D) (ρ : EnvD) (h : AH), loopD st g tb Z xs ρ h → loopD st g tb Z' xs ρ h
  | [], ρ, h, q => ⟨q.1, l.nx _ _ q.2⟩
  | x :: r, ρ, h, q => ⟨q.1, mg _ _ _ _ _ _ _ (fun ρ2 h2 z => mb { Z with nx := loopD st g tb Z r, ct := loopD st g tb Z r, bk := Z.nx } _ _ _ ⟨fun _ _ z => loopD_mo mg mb l r _ _ z, l.rt, fun _ _ z => l.nx _ _ z, fun _ _ z => loopD_mo mg mb l r _ _ z, l.ex⟩ z) l.ex q.2⟩
section
variable {X : Cx} {E : XK} {k : Nat} {e tg iter : Expr} {pos : Pos} {body : List Stmt} {tb : WS} {wi : WI} {g : WG}
theorem as_for (c : Cg gz X E k) (hi : AI X E tg iter wi) (hg : AG X E tg g) (hb : ASs X E body tb) (hs : ∀ x, foldedSetIterable iter X.env x = pure x := by intro _; rfl) : AS X E (.For tg iter body [] pos) (wFor wi g tb) := by
  refine ⟨PS.imp (ps_for c.po c.calm hi.run hg.run hb.run hs) fun D σ H ⟨F, ρ, h, S, R, q⟩ => ?_, fun D D' ρ h l q => hi.mo _ _ _ _ _ _ (fun xs st h z => loopD_mo hg.mo hb.mo l _ _ _ z) l.ex q⟩
  refine ⟨F, ρ, h, S, R, hi.mo _ _ _ _ _ _ (fun xs st h1 z => ?_) (fun _ _ z => z) q⟩
  intro F1 H1 J e1 S1 it
  refine ⟨fun i m σ H => m = xs.length - i ∧ i ≤ xs.length ∧ ∃ F2 ρ2 h2, Ext F1 F2 ∧ Sim X.K F2 h2 H ∧ EnvR X.K F2 ρ2 σ ∧ loopD st g tb (LD X.K F D E) (xs.drop i) ρ2 h2, ⟨xs.length, by simp, Nat.zero_le _, F1, ρ, h1, .refl _, S1, R.ext e1, by simpa using z⟩, ?_⟩
  rintro i m σ2 H2 ⟨rfl, hi2, F2, ρ2, h2, e2, S2, R2, z2⟩
  by_cases lt : i < xs.length
  · rw [List.drop_eq_getElem_cons lt] at z2
    obtain ⟨hst, z2⟩ := z2
    refine .inr ⟨it.go e2 S2 hst lt, fun σ' H' => ∃ F3 ρ3 h3, Ext F1 F3 ∧ Sim X.K F3 h3 H' ∧ EnvR X.K F3 ρ3 σ' ∧ loopD st g tb (LD X.K F D E) (xs.drop (i + 1)) ρ3 h3, fun σ' H' p => ⟨xs.length - (i + 1), by omega, rfl, lt, p⟩, fun x H' y => ?_⟩
    obtain ⟨F3, e3, S3, r3⟩ := it.yld e2 S2 hst y (List.getElem?_eq_getElem lt)
    have e13 := e1.trans (e2.trans e3)
    refine ⟨F3, ρ2, h2, _, S3, R2.ext e3, r3, hg.mo _ _ _ _ _ _ _ (fun ρ4 h4 z4 => ?_) (fun _ _ z => LX.ext e13 z) z2⟩
    intro F4 H4 σ4 e4 S4 R4
    have e14 := e13.trans e4
    refine ⟨F4, ρ4, h4, S4, R4, hb.mo _ _ _ _ ⟨fun ρ5 h5 z5 F5 H5 σ5 e5 S5 R5 => ⟨F5, ρ5, h5, (e2.trans e3).trans (e4.trans e5), S5, R5, z5⟩, fun _ _ z => LQ.ext e14 z, fun _ _ z => LS.ext e14 z, fun ρ5 h5 z5 F5 H5 σ5 e5 S5 R5 => ⟨F5, ρ5, h5, (e2.trans e3).trans (e4.trans e5), S5, R5, z5⟩, fun _ _ z => LX.ext e14 z⟩ z4⟩
  · have e : i = xs.length := by omega
    subst e
    rw [List.drop_length] at z2
    exact .inl ⟨it.stop e2 S2 z2.1 rfl, z2.2 F2 H2 σ2 (e1.trans e2) S2 R2⟩
/-! sources -/
def iSeq (wa : WE) : WI := fun ρ h R X => wa ρ h (fun x h1 => match x with
  | .lst xs => R xs (fun _ => True) h1
  | .ref a => ∃ xs, h1 a = some (.lst xs) ∧ R xs (fun h => h a = some (.lst xs)) h1
  | _ => False) X
def iTupD (wa : WE) : WI := fun ρ h R X => wa ρ h (fun x h1 => match x with
  | .tup xs => R xs (fun _ => True) h1
  | .tpl xs => R xs (fun _ => True) h1
  | _ => False) X
def intsD (lo : Int) (n : Nat) : List D := (List.range n).map fun i => D.int (lo + (i : Nat))
def iRng1 (wl : WA) : WI := fun ρ h R X => wl ρ h (fun ds h1 => match ds with
  | [.int j] => -(2 ^ 62) ≤ j ∧ j < 2 ^ 62 ∧ R (intsD 0 j.toNat) (fun _ => True) h1
  | _ => False) X
def iRng2 (wl : WA) : WI := fun ρ h R X => wl ρ h (fun ds h1 => match ds with
  | [.int i, .int j] => (-(2 ^ 62) ≤ i ∧ i < 2 ^ 62 ∧ -(2 ^ 62) ≤ j ∧ j < 2 ^ 62) ∧ R (intsD i (j - i).toNat) (fun _ => True) h1
  | _ => False) X
theorem ItD.list {K : PySem.W.Frag} {F : Hp} {a : Addr} {xs : List D} {st : AH → Prop} (h : ∀ {F' h H}, Ext F F' → Sim K F' h H → st h → ∃ vs, SqL K H a vs ∧ Reps K F' xs vs) : ItD K F (Itl K a) xs st where
  go := fun {i F' h0 H} e S s l => by
    obtain ⟨vs, q, r⟩ := h e S s
    obtain ⟨v, hv, _⟩ := r.get (List.getElem?_eq_getElem l)
    exact ⟨vs, v, q, hv⟩
  stop := fun {i F' h0 H} e S s l => by
    obtain ⟨vs, q, r⟩ := h e S s
    exact ⟨vs, q, by rw [← r.length]; exact Nat.le_of_eq l⟩
  yld := fun {i F' h0 H x H' d} e S s y hd => by
    obtain ⟨rfl, y⟩ := y
    obtain ⟨vs, q, r⟩ := h e S s
    obtain ⟨v, hv, rv⟩ := r.get hd
    have := y vs q
    rw [hv] at this; cases this
    exact ⟨F', .refl _, S, rv⟩
theorem ItD.tup {K : PySem.W.Frag} {F : Hp} {a : Addr} {xs : List D} {vs : List V} (q : SqT K F a vs) (r : Reps K F xs vs) : ItD K F (Itt K a) xs (fun _ => True) where
  go := fun {i F' h0 H} e S s l => by
    obtain ⟨v, hv, _⟩ := r.get (List.getElem?_eq_getElem l)
    exact ⟨vs, v, sqt_of S.fz (e.sqt q), hv⟩
  stop := fun {i F' h0 H} e S s l => ⟨vs, sqt_of S.fz (e.sqt q), by rw [← r.length]; exact Nat.le_of_eq l⟩
  yld := fun {i F' h0 H x H' d} e S s y hd => by
    obtain ⟨rfl, y⟩ := y
    obtain ⟨v, hv, rv⟩ := r.get hd
    have := y vs (sqt_of S.fz (e.sqt q))
    rw [hv] at this; cases this
    exact ⟨F', .refl _, S, rv.ext e⟩
theorem intsD_len {lo : Int} {n : Nat} : (intsD lo n).length = n := by simp [intsD]
theorem intsD_get {lo : Int} {n i : Nat} {d : D} (h : (intsD lo n)[i]? = some d) : d = .int (lo + (i : Nat)) ∧ i < n := by
  unfold intsD at h
  rw [List.getElem?_map] at h
  by_cases c : i < n
  · rw [List.getElem?_range c] at h
    cases h; exact ⟨rfl, c⟩
  · rw [List.getElem?_eq_none (by simpa using c)] at h; cases h
theorem ItD.rng {K : PySem.W.Frag} {F : Hp} {lo : Int} {n : Nat} : ItD K F (Itr lo n) (intsD lo n) (fun _ => True) where
  go := fun {i F' h0 H} e S s l => by rw [intsD_len] at l; exact l
  stop := fun {i F' h0 H} e S s l => by rw [intsD_len] at l; exact Nat.le_of_eq l
  yld := fun {i F' h0 H x H' d} e S s y hd => by
    obtain ⟨rfl, rfl⟩ := y
    obtain ⟨rfl, _⟩ := intsD_get hd
    exact ⟨F', .refl _, S, .int _⟩
variable {wa : WE} {wl : WA} {es : List Expr} {p : Pos}
theorem ai_list {l : Expr} (hl : AE X E l wa) : AI X E tg l (iSeq wa) := by
  refine ⟨PI.imp (pi_list hl.run) fun σ H R ⟨F, ρ, g, S, Rr, q⟩ => ?_, fun ρ h Q Q' X X' hq hx q => hl.mo _ _ _ _ _ _ (fun x h1 z => ?_) hx q⟩
  · refine ⟨F, ρ, g, S, Rr, hl.mo _ _ _ _ _ _ (fun x h1 z => ?_) (fun _ _ z => z) q⟩
    intro F1 H1 v e1 S1 r
    split at z
    · cases r with
      | @lst a xs vs hf rs =>
        exact ⟨a, rfl, ⟨vs, .of (S1.fz _ _ hf)⟩, z F1 H1 _ e1 S1 (ItD.list fun {F' h0 H0} e S _ => ⟨vs, .of (S.fz _ _ (e _ _ hf)), rs.ext e⟩)⟩
    · rename_i a
      obtain ⟨xs, hx, z⟩ := z
      cases r
      obtain ⟨_, u, hu, vs, rfl, rs⟩ := S1.ob _ _ hx
      refine ⟨a, rfl, ⟨vs, .of hu⟩, z F1 H1 _ e1 S1 (ItD.list fun {F' h0 H0} e S st => ?_)⟩
      obtain ⟨_, u', hu', vs', rfl, rs'⟩ := S.ob _ _ st
      exact ⟨vs', .of hu', rs'⟩
    · exact z.elim
  · split at z
    · exact hq _ _ _ z
    · obtain ⟨xs, hx, z⟩ := z
      exact ⟨xs, hx, hq _ _ _ z⟩
    · exact z.elim
theorem ai_tup {l : Expr} (hl : AE X E l wa) : AI X E tg l (iTupD wa) := by
  refine ⟨PI.imp (pi_tup hl.run) fun σ H R ⟨F, ρ, g, S, Rr, q⟩ => ?_, fun ρ h Q Q' X X' hq hx q => hl.mo _ _ _ _ _ _ (fun x h1 z => ?_) hx q⟩
  · refine ⟨F, ρ, g, S, Rr, hl.mo _ _ _ _ _ _ (fun x h1 z => ?_) (fun _ _ z => z) q⟩
    intro F1 H1 v e1 S1 r
    split at z
    · cases r with
      | @tup a xs vs hf rs => exact ⟨a, rfl, ⟨vs, sqt_of S1.fz hf⟩, z F1 H1 _ e1 S1 (ItD.tup hf rs)⟩
    · cases r with
      | @tpl a ob xs vs hf hd rs => exact ⟨a, rfl, ⟨vs, sqt_of S1.fz (.inl (.inr ⟨_, hf⟩))⟩, z F1 H1 _ e1 S1 (ItD.tup (.inl (.inr ⟨_, hf⟩)) rs)⟩
    · exact z.elim
  · split at z
    · exact hq _ _ _ z
    · exact hq _ _ _ z
    · exact z.elim
theorem ai_rng1 {a : Expr} (hm : X.mg "range" = none) (ha : AA X E [a] wl) (hg : Gl X "range" := by rfl) (hs : starEach [a] X.env = [(false, eval a X.env)] := by rfl) : AI X E tg (.Call (.Name "range" p) [a] [] pos) (iRng1 wl) := by
  refine ⟨PI.imp (pi_range1 hg hm ha.run hs) fun σ H R ⟨F, ρ, g, S, Rr, q⟩ => ?_, fun ρ h Q Q' X X' hq hx q => ha.mo _ _ _ _ _ _ (fun ds h1 z => ?_) hx q⟩
  · refine ⟨F, ρ, g, S, Rr, ha.mo _ _ _ _ _ _ (fun ds h1 z => ?_) (fun _ _ z => z) q⟩
    intro F1 H1 vs e1 S1 rs
    split at z
    · cases rs with
      | cons r rs => cases rs; cases r; exact ⟨_, rfl, z.1, z.2.1, z.2.2 F1 H1 _ e1 S1 ItD.rng⟩
    · exact z.elim
  · split at z
    · exact ⟨z.1, z.2.1, hq _ _ _ z.2.2⟩
    · exact z.elim
end
end DL
namespace DL
open PySem PySem.Spec L2
def wipeD (ρ : EnvD) : List Nat → EnvD
  | [] => ρ
  | v :: vs => (wipeD ρ vs).set v none
theorem EnvR.wipe {K : PySem.W.Frag} {F : Hp} {ρ : EnvD} {σ : L2.St} (r : EnvR K F ρ σ) : ∀ vs : List Nat, EnvR K F (wipeD ρ vs) (L2.wipe σ vs)
  | [] => r
  | v :: vs => by
    have ih := EnvR.wipe r vs
    refine ⟨by simp [wipeD, L2.wipe, ih.1], fun i d e => ?_⟩
    show ∃ x, ((L2.wipe σ vs).set v none)[i]? = some (some x) ∧ _
    have e : ((wipeD ρ vs).set v none)[i]? = some (some d) := e
    by_cases c : v = i
    · subst c
      by_cases l : v < (wipeD ρ vs).length
      · rw [List.getElem?_set_self l] at e; cases e
      · rw [List.getElem?_eq_none (by simpa using l)] at e; cases e
    · rw [List.getElem?_set_ne c] at e ⊢
      exact ih.2 i d e
def rm (h : AH) (p : Addr) : AH := fun b => if b = p then none else h b
@[simp] theorem rm_up {h : AH} {p : Addr} {o : AO} : rm (up h p o) p = rm h p := by funext b; unfold rm up; split <;> rfl
theorem rm_none {h : AH} {p : Addr} (e : h p = none) : rm h p = h := by
  funext b; unfold rm; split
  · rename_i c; rw [c, e]
  · rfl
theorem rm_sub {h : AH} {p : Addr} : Sub (rm h p) h := fun a o e => by
  unfold rm at e; split at e
  · cases e
  · exact e
theorem rm_same {h : AH} {p : Addr} : rm h p p = none := by simp [rm]
/-- a target of a comprehension: names alone -/
structure GW (K : PySem.W.Frag) (vs : List Nat) (g : WG) (gv : TG) : Prop where
  to : ∀ {F h H d v ρ σ} {QD : EnvD → AH → Prop} {Q : L2.St → Hp → Prop}, Sim K F h H → Rep K F d v → EnvR K F ρ σ → g d ρ h QD (fun _ _ => False) →
    (∀ ρ2 σ2, EnvR K F ρ2 σ2 → QD ρ2 h → L2.wipe σ2 vs = L2.wipe σ vs → Q σ2 H) → gv v σ H Q
  mo : MoG g
theorem wipe_set {σ : L2.St} {i : Nat} {x : Option V} : ∀ {vs : List Nat}, i ∈ vs → L2.wipe (σ.set i x) vs = L2.wipe σ vs
  | v :: vs, h => by
    show (L2.wipe (σ.set i x) vs).set v none = (L2.wipe σ vs).set v none
    by_cases c : i ∈ vs
    · rw [wipe_set c]
    · have e : v = i := by rcases List.mem_cons.mp h with e | e; exact e.symm; exact absurd e c
      subst e
      have : ∀ {ws : List Nat}, L2.wipe (σ.set v x) ws = (L2.wipe σ ws).set v (if v ∈ ws then none else x) ∨ True := fun {ws} => .inr trivial
      apply List.ext_getElem?
      intro j
      by_cases ej : v = j
      · subst ej
        by_cases l : v < σ.length
        · rw [List.getElem?_set_self (by rw [L2.wipe_length, List.length_set]; exact l), List.getElem?_set_self (by rw [L2.wipe_length]; exact l)]
        · rw [List.getElem?_eq_none (by simp [L2.wipe_length]; omega), List.getElem?_eq_none (by simp [L2.wipe_length]; omega)]
      · rw [List.getElem?_set_ne ej, List.getElem?_set_ne ej]
        have q : ∀ (ws : List Nat) (a b : L2.St), (a.length = b.length) → (∀ j, v ≠ j → a[j]? = b[j]?) → ∀ j, v ≠ j → (L2.wipe a ws)[j]? = (L2.wipe b ws)[j]? := by
          intro ws
          induction ws with
          | nil => intro a b _ h j hj; exact h j hj
          | cons w ws ih =>
            intro a b hl h j hj
            show ((L2.wipe a ws).set w none)[j]? = ((L2.wipe b ws).set w none)[j]?
            by_cases c : w = j
            · subst c
              by_cases l : w < a.length
              · rw [List.getElem?_set_self (by rw [L2.wipe_length]; exact l), List.getElem?_set_self (by rw [L2.wipe_length, ← hl]; exact l)]
              · rw [List.getElem?_eq_none (by simp [L2.wipe_length]; omega), List.getElem?_eq_none (by simp [L2.wipe_length]; omega)]
            · rw [List.getElem?_set_ne c, List.getElem?_set_ne c]
              exact ih a b hl h j hj
        exact q vs _ _ (by simp) (fun j hj => by rw [List.getElem?_set_ne hj]) j ej
theorem gw_name {K : PySem.W.Frag} {vs : List Nat} {i : Nat} (hi : i ∈ vs) : GW K vs (gN i) (gName i) :=
  ⟨fun {F h H d v ρ σ QD Q} S r R q k => k _ _ (R.set r i) q (wipe_set hi), fun d ρ h Q Q' X X' hq _ q => hq _ _ q⟩
/-- i, j, .. : the names of a tuple target -/
def gsN : List Nat → WGs
  | [] => gsNil
  | i :: is => gsCons (gN i) (gsN is)
def gvN : List Nat → TGs
  | [] => L2.gNil
  | i :: is => L2.gCons (gName i) (gvN is)
theorem gw_names {K : PySem.W.Frag} {vs : List Nat} : ∀ {is : List Nat}, (∀ i ∈ is, i ∈ vs) → ∀ {F h H ds us ρ σ} {QD : EnvD → AH → Prop} {Q : L2.St → Hp → Prop}, Sim K F h H → Reps K F ds us → EnvR K F ρ σ → gsN is ds ρ h QD (fun _ _ => False) →
    (∀ ρ2 σ2, EnvR K F ρ2 σ2 → QD ρ2 h → L2.wipe σ2 vs = L2.wipe σ vs → Q σ2 H) → gvN is us σ H Q
  | [], _, F, h, H, ds, us, ρ, σ, QD, Q, S, r, R, q, k => by
    obtain ⟨rfl, q⟩ := q
    cases r
    exact ⟨rfl, k ρ σ R q rfl⟩
  | i :: is, hi, F, h, H, ds, us, ρ, σ, QD, Q, S, r, R, q, k => by
    obtain ⟨d, ds', rfl, q⟩ := q
    cases r with
    | cons r rr =>
      refine ⟨_, _, rfl, ?_⟩
      refine gw_names (is := is) (fun j hj => hi j (List.mem_cons_of_mem _ hj)) S rr (R.set r i) q fun ρ2 σ2 R2 q2 e2 => k ρ2 σ2 R2 q2 (e2.trans (wipe_set (hi i (List.mem_cons_self ..))))
theorem mo_gsN : ∀ is : List Nat, MoGs (gsN is)
  | [] => fun d ρ h Q Q' X X' hq _ q => ⟨q.1, hq _ _ q.2⟩
  | i :: is => fun d ρ h Q Q' X X' hq hx ⟨x, xs, e, q⟩ => ⟨x, xs, e, mo_gsN is _ _ _ _ _ _ _ hq hx q⟩
theorem mo_gT {n : Nat} {r : WGs} (m : MoGs r) : MoG (gT n r) := fun d ρ h Q Q' X X' hq hx ⟨xs, e, l, q⟩ => ⟨xs, e, l, m _ _ _ _ _ _ _ hq hx q⟩
theorem gw_tup {K : PySem.W.Frag} {vs : List Nat} {is : List Nat} (hi : ∀ i ∈ is, i ∈ vs) : GW K vs (gT is.length (gsN is)) (gTup K is.length (gvN is)) := by
  refine ⟨fun {F h H d v ρ σ QD Q} S r R q k => ?_, mo_gT (mo_gsN is)⟩
  obtain ⟨xs, rfl, l, q⟩ := q
  cases r with
  | @tup a _ us hs rs => exact ⟨a, us, rfl, sqt_of S.fz hs, by rw [← rs.length]; exact l, gw_names hi S rs R q k⟩
def compD (st : AH → Prop) (g : WG) (tt : WT) (te : WE) (vs : List Nat) (ρ : EnvD) (p : Addr) : List D → AH → (AH → Prop) → Prop
  | [], h, Q => st h ∧ Q h
  | x :: r, h, Q => st h ∧ g x (wipeD ρ vs) h (fun ρ2 h2 => tt ρ2 h2 (fun b h3 => if b = true then te ρ2 h3 (fun y h4 => ∃ acc, h4 p = some (.lst acc) ∧ acc.length < sizeLine ∧ compD st g tt te vs ρ p r (up h4 p (.lst (acc ++ [y]))) Q) (fun _ _ => False) else compD st g tt te vs ρ p r h3 Q) (fun _ _ => False)) (fun _ _ => False)
/-- what becomes of the list that a comprehension made -/
def endL (m : Bool) (p : Addr) (Q : KD) : AH → Prop := fun h => ∃ acc, h p = some (.lst acc) ∧ if m = true then Q (.ref p) h else Q (.lst acc) (rm h p)
def wLc (m : Bool) (wi : WI) (g : WG) (tt : WT) (te : WE) (vs : List Nat) : WE := fun ρ h Q X => wi ρ h (fun xs st h1 => ∀ p, h1 p = none → compD st g tt te vs ρ p xs (up h1 p (.lst [])) (endL m p Q)) X
def wYes : WT := fun _ h Q _ => Q true h
theorem mo_yes : MoT wYes := fun ρ h Q Q' X X' hq _ q => hq _ _ q
theorem compD_mo {st : AH → Prop} {g : WG} {tt : WT} {te : WE} {vs : List Nat} {ρ : EnvD} {p : Addr} (mg : MoG g) (mt : MoT tt) (me : MoE te) {Q Q' : AH → Prop} (hq : ∀ h, Q h → Q' h) : ∀ (xs : List D) (h : AH), compD st g tt te vs ρ p xs h Q → compD st g tt te vs ρ p xs h Q'
  | [], h, q => ⟨q.1, hq _ q.2⟩
  | x :: r, h, q => ⟨q.1, mg _ _ _ _ _ _ _ (fun ρ2 h2 z => mt _ _ _ _ _ _ (fun b h3 z => by
      split at z
      · rename_i c; rw [if_pos c]; exact me _ _ _ _ _ _ (fun y h4 ⟨acc, e, l, z⟩ => ⟨acc, e, l, compD_mo mg mt me hq r _ z⟩) (fun _ _ z => z) z
      · rename_i c; rw [if_neg c]; exact compD_mo mg mt me hq r _ z) (fun _ _ z => z) z) (fun _ _ z => z) q.2⟩
theorem endL_mo {m : Bool} {p : Addr} {Q Q' : KD} (hq : ∀ d h, Q d h → Q' d h) : ∀ h, endL m p Q h → endL m p Q' h := fun h ⟨acc, e, z⟩ => ⟨acc, e, by
  split at z
  · rename_i c; rw [if_pos c]; exact hq _ _ z
  · rename_i c; rw [if_neg c]; exact hq _ _ z⟩
theorem endL_to {K : PySem.W.Frag} {F : Hp} {h : AH} {H : Hp} {m : Bool} {p : Addr} {Q : VK} (S : Sim K F h H) (q : endL m p (LQ K F Q) h) : Q (.ref p) H := by
  obtain ⟨acc, e, q⟩ := q
  split at q
  · exact q.at S (.ref p)
  · obtain ⟨f, u, hu, us, rfl, rs⟩ := S.ob _ _ e
    obtain ⟨e2, S2⟩ := S.frz e hu rm_same rm_sub
    exact q _ _ _ e2 S2 (.lst upd_same (rs.ext e2))
theorem mo_lc {m : Bool} {wi : WI} {g : WG} {tt : WT} {te : WE} {vs : List Nat} (mi : MoI wi) (mg : MoG g) (mt : MoT tt) (me : MoE te) : MoE (wLc m wi g tt te vs) := fun ρ h Q Q' X X' hq hx q =>
  mi _ _ _ _ _ _ (fun xs st h1 z p hp => compD_mo mg mt me (endL_mo hq) _ _ (z p hp)) hx q
/-- the tests of a clause -/
structure ATs (X : Cx) (E : XK) (ifs : List Expr) (w : WT) : Prop where
  run : PTs X ifs (tT X.K E w)
  mo : MoT w
theorem ats_nil {X : Cx} {E : XK} : ATs X E [] wYes := ⟨⟨fun pins s σ H Q I ⟨F, ρ, h, S, R, q⟩ => pts_nil.run pins s σ H Q I (q F H (.refl F) S)⟩, mo_yes⟩
theorem ats_one {X : Cx} {E : XK} {c : Expr} {w : WT} (h : AT X E c w) : ATs X E [c] w := ⟨pts_one h.run, h.mo⟩
section
variable {X : Cx} {E : XK} {k : Nat} {elt tg iter : Expr} {ifs : List Expr} {scope : Scope} {own : List (Str × Nat)} {pos : Pos} {wi : WI} {g : WG} {gv : TG} {tt : WT} {te : WE}
/-- the block of a comprehension: nothing is let out of it -/
abbrev Blk (X : Cx) (scope : Scope) (s : Shared) (H : Hp) (C : Addr) (cl : List (Str × Addr)) (fp : List Addr) : Cx := X.blk s H scope (compEnvC scope cl C X.env) fp
theorem cg_blk (c : Cg gz X E k) (s : Shared) (H : Hp) (C : Addr) (cl : List (Str × Addr)) (fp : List Addr) (po : PassesOwn (model X.prog X.w) X.A (compEnvC scope cl C X.env) (fun _ _ => False) := PassesOwn.never) : Cg gz (Blk X scope s H C cl fp) E0 k :=
  ⟨c.room, c.gd, c.calm, c.nd, passL, po⟩
theorem to_lc {m : Bool} (mi : MoI wi) (mg : MoG g) (mt : MoT tt) (me : MoE te) (gw : GW X.K (own.map (·.2)) g gv) {σ : L2.St} {H : Hp} {Q : VK} (h : tE X.K E (wLc m wi g tt te (own.map (·.2))) σ H Q) :
    tLc (tI X.K E wi) gv (tT X.K E0 tt) (tE X.K E0 te) (own.map (·.2)) σ H Q := by
  obtain ⟨F, ρ, h0, S, R, q⟩ := h
  refine ⟨F, ρ, h0, S, R, mi _ _ _ _ _ _ (fun xs st h1 z => ?_) (fun _ _ z => z) q⟩
  intro F1 H1 J e1 S1 it D hD
  obtain ⟨f1, g1⟩ := S1.free hD
  have z := z D g1
  refine ⟨fun i n H => n = xs.length - i ∧ i ≤ xs.length ∧ ∃ F2 h2, Ext F1 F2 ∧ Sim X.K F2 h2 H ∧ compD st g tt te (own.map (·.2)) ρ D (xs.drop i) h2 (endL m D (LQ X.K F2 Q)),
    ⟨xs.length, by simp, Nat.zero_le _, F1, _, .refl _, S1.newM hD (o := .lst []) ⟨[], rfl, .nil⟩, compD_mo mg mt me (endL_mo fun _ _ z => LQ.ext e1 z) _ _ (by simpa using z)⟩, ?_⟩
  rintro i n H2 ⟨rfl, hi, F2, h2, e2, S2, z2⟩
  by_cases lt : i < xs.length
  · rw [List.drop_eq_getElem_cons lt] at z2
    obtain ⟨hst, z2⟩ := z2
    refine .inr ⟨it.go e2 S2 hst lt, fun H' => ∃ F3 h3, Ext F1 F3 ∧ Sim X.K F3 h3 H' ∧ compD st g tt te (own.map (·.2)) ρ D (xs.drop (i + 1)) h3 (endL m D (LQ X.K F3 Q)), fun H' p => ⟨xs.length - (i + 1), by omega, rfl, lt, p⟩, fun x H' y => ?_⟩
    obtain ⟨F3, e3, S3, r3⟩ := it.yld e2 S2 hst y (List.getElem?_eq_getElem lt)
    have R3 := (R.ext (e1.trans (e2.trans e3))).wipe (own.map (·.2))
    refine gw.to S3 r3 R3 z2 fun ρ4 σ4 R4 z4 ew => ⟨?_, ?_⟩
    · rw [ew]
      have : ∀ vs : List Nat, L2.wipe (L2.wipe σ vs) vs = L2.wipe σ vs := by
        intro vs
        have key : ∀ (us vs : List Nat), (∀ u ∈ us, u ∈ vs) → L2.wipe (L2.wipe σ us) vs = L2.wipe σ vs := by
          intro us
          induction us with
          | nil => intro vs _; rfl
          | cons u us ih =>
            intro vs hu
            show L2.wipe ((L2.wipe σ us).set u none) vs = _
            rw [wipe_set (hu u (List.mem_cons_self ..)), ih vs fun w hw => hu w (List.mem_cons_of_mem _ hw)]
        exact key vs vs fun _ h => h
      rw [this]
    · refine ⟨F3, ρ4, h2, S3, R4, mt _ _ _ _ _ _ (fun b h5 z5 => ?_) (fun _ _ z => z.elim) z4⟩
      intro F5 H5 e5 S5
      split at z5
      · rename_i cb
        rw [if_pos cb]
        refine ⟨F5, ρ4, h5, S5, R4.ext e5, me _ _ _ _ _ _ (fun y h6 z6 => ?_) (fun _ _ z => z.elim) z5⟩
        intro F6 H6 v6 e6 S6 r6
        obtain ⟨acc, ea, la, z6⟩ := z6
        obtain ⟨fa, u, hu, us, rfl, rs⟩ := S6.ob _ _ ea
        exact ⟨us, hu, by rw [← rs.length]; exact la, F6, _, e2.trans (e3.trans (e5.trans e6)), S6.put ea (o := .lst (acc ++ [y])) ⟨_, rfl, rs.append (.cons r6 .nil)⟩, compD_mo mg mt me (endL_mo fun _ _ z => LQ.ext (e3.trans (e5.trans e6)) z) _ _ z6⟩
      · rename_i cb
        rw [if_neg cb]
        exact ⟨F5, _, e2.trans (e3.trans e5), S5, compD_mo mg mt me (endL_mo fun _ _ z => LQ.ext (e3.trans e5) z) _ _ z5⟩
  · have e : i = xs.length := by omega
    subst e
    rw [List.drop_length] at z2
    exact .inl ⟨it.stop e2 S2 z2.1 rfl, endL_to S2 z2.2⟩
theorem ae_lc (m : Bool) (c : Cg gz X E k) (hi : AI X E tg iter wi) (ok : BlkOk X.N X.env.scope scope own) (gw : GW X.K (own.map (·.2)) g gv)
    (hg : ∀ (s : Shared) (H : Hp) (C : Addr) (cl : List (Str × Addr)) (fp : List Addr), PG (Blk X scope s H C cl fp) tg gv)
    (ht : ∀ (s : Shared) (H : Hp) (C : Addr) (cl : List (Str × Addr)) (fp : List Addr), Cg gz (Blk X scope s H C cl fp) E0 k → ATs (Blk X scope s H C cl fp) E0 ifs tt)
    (he : ∀ (s : Shared) (H : Hp) (C : Addr) (cl : List (Str × Addr)) (fp : List Addr), Cg gz (Blk X scope s H C cl fp) E0 k → AE (Blk X scope s H C cl fp) E0 elt te)
    (hs : ∀ x, foldedSetIterable iter X.env x = pure x := by intro _; rfl) :
    AE X E (.ListComp elt [⟨tg, iter, ifs, 0⟩] scope pos) (wLc m wi g tt te (own.map (·.2))) :=
  have mg := gw.mo
  have mt := (ht X.s_0 X.H_0 0 [] [] (cg_blk c _ _ _ _ _)).mo
  have me := (he X.s_0 X.H_0 0 [] [] (cg_blk c _ _ _ _ _)).mo
  ⟨PE.imp (pe_lc (tt := tT X.K E0 tt) (te := tE X.K E0 te) c.calm c.nd hi.run ok hg (fun s H C cl fp => (ht s H C cl fp (cg_blk c s H C cl fp)).run) (fun s H C cl fp => (he s H C cl fp (cg_blk c s H C cl fp)).run) hs) fun σ H Q h => to_lc hi.mo mg mt me gw h, mo_lc hi.mo mg mt me⟩
theorem as_setLc (m : Bool) (i : Nat) {y : Str} {py spos : Pos} (c : Cg gz X E k) (hi : AI X E tg iter wi) (ok : BlkOk X.N X.env.scope scope own) (gw : GW X.K (own.map (·.2)) g gv)
    (hg : ∀ (s : Shared) (H : Hp) (C : Addr) (cl : List (Str × Addr)) (fp : List Addr), PG (Blk X scope s H C cl fp) tg gv)
    (ht : ∀ (s : Shared) (H : Hp) (C : Addr) (cl : List (Str × Addr)) (fp : List Addr), Cg gz (Blk X scope s H C cl fp) E0 k → ATs (Blk X scope s H C cl fp) E0 ifs tt)
    (he : ∀ (s : Shared) (H : Hp) (C : Addr) (cl : List (Str × Addr)) (fp : List Addr), Cg gz (Blk X scope s H C cl fp) E0 k → AE (Blk X scope s H C cl fp) E0 elt te)
    (hy : X.N[i]? = some y := by rfl) (hyl : X.env.scope.names.lookup y = some .local := by rfl)
    (hsw : swapsWith (.ListComp elt [⟨tg, iter, ifs, 0⟩] scope pos) (some (.Name y py)) spos.line X.env = pure true := by exact sw_true rfl rfl rfl (by decide +kernel))
    (hs : ∀ x, foldedSetIterable iter X.env x = pure x := by intro _; rfl) :
    AS X E (.Assign [.Name y py] (.ListComp elt [⟨tg, iter, ifs, 0⟩] scope pos) spos) (wAsg (wLc m wi g tt te (own.map (·.2))) (gN i)) := by
  have mg := gw.mo
  have mt := (ht X.s_0 X.H_0 0 [] [] (cg_blk c _ _ _ _ _)).mo
  have me := (he X.s_0 X.H_0 0 [] [] (cg_blk c _ _ _ _ _)).mo
  have P := ps_setLc (tt := tT X.K E0 tt) (te := tE X.K E0 te) (spos := spos) (pos := pos) (i := i) c.calm c.nd hy hyl hsw hi.run ok hg (fun s H C cl fp => (ht s H C cl fp (cg_blk c s H C cl fp)).run) (fun s H C cl fp => (he s H C cl fp (cg_blk c s H C cl fp)).run) hs
  have M := mo_lc (m := m) (vs := own.map (·.2)) hi.mo mg mt me
  refine ⟨PS.imp P fun D σ H h => ?_, mo_asg M fun d ρ h Q Q' X X' hq _ q => hq _ _ q⟩
  obtain ⟨F, ρ, h0, S, R, q⟩ := h
  refine to_lc (m := m) hi.mo mg mt me gw ⟨F, ρ, h0, S, R, M _ _ _ _ _ _ (fun x h1 z => ?_) (fun _ _ z => z) q⟩
  intro F1 H1 v e1 S1 r
  exact z F1 H1 _ e1 S1 ((R.ext e1).set r i)
end
end DL
namespace DL
open PySem PySem.Spec L2 C8
/-! ### subscripts -/
def dIx (x y : D) (h : AH) (Q : KD) : Prop := match y with
  | .int i => ∃ xs d, seqOf h x = some xs ∧ atI xs i = some d ∧ Q d h
  | _ => False
theorem Reps.atI {K : PySem.W.Frag} {F : Hp} {xs : List D} {vs : List V} {i : Int} {d : D} (r : Reps K F xs vs) (e : L2.atI xs i = some d) : ∃ v, L2.atI vs i = some v ∧ Rep K F d v := by
  unfold L2.atI at *
  rw [← r.length]
  cases q : ixN xs.length i with
  | none => rw [q] at e; cases e
  | some j =>
    rw [q] at e
    exact r.get (i := j) e
def rIxD2 (K : PySem.W.Frag) : R2 := fun x y H Q => rIxL K x y H Q ∨ rIxT K x y H Q
theorem ix_two {X : Cx} : IxR X (rIxD2 X.K) := IxR.or ix_list ix_tup
theorem dIx_ok {K : PySem.W.Frag} : OpD K (rIxD2 K) dIx where
  to := by
    intro F h H x y vx vy Q S rx ry q
    unfold dIx at q
    split at q
    · obtain ⟨xs, d, e1, e2, q⟩ := q
      cases ry
      obtain ⟨a, vs, rfl, hs, rs⟩ := S.seqOf rx e1
      obtain ⟨v, hv, rv⟩ := rs.atI e2
      rcases hs with hs | hs
      · exact .inl ⟨a, vs, _, v, rfl, rfl, hs, hv, q.at S rv⟩
      · exact .inr ⟨a, vs, _, v, rfl, rfl, hs, hv, q.at S rv⟩
    · exact q.elim
  mo := by
    intro x y h Q Q' hq q
    unfold dIx at *
    split at q
    · obtain ⟨xs, d, e1, e2, q⟩ := q
      exact ⟨xs, d, e1, e2, hq _ _ q⟩
    · exact q.elim
section
variable {X : Cx} {E : XK} {k : Nat} {a b e o i : Expr} {es : List Expr} {wa wb wo wi : WE} {wl : WA} {pos : Pos}
theorem ae_ix (ha : AE X E a wa) (hb : AE X E b wb) (hs : PlainIx b := by exact fun _ _ => rfl) : AE X E (.Subscript a b pos) (wOp dIx wa wb) :=
  ⟨PE.imp (pe_ix ix_two ha.run hb.run hs) fun σ H Q h => two dIx_ok ha hb h, mo_op (dIx_ok (K := X.K)).mo ha.mo hb.mo⟩
/-! ### slices -/
abbrev WO := EnvD → AH → (Option Int → AH → Prop) → KX → Prop
def woNone : WO := fun _ h Q _ => Q none h
def woSome (a : WE) : WO := fun ρ h Q X => a ρ h (fun x h1 => match x with
  | .int i => Q (some i) h1
  | _ => False) X
def MoO (w : WO) : Prop := ∀ ρ h Q Q' X X', (∀ d h, Q d h → Q' d h) → (∀ x h, X x h → X' x h) → w ρ h Q X → w ρ h Q' X'
def LO (K : PySem.W.Frag) (F : Hp) (Q : Option Int → Hp → Prop) : Option Int → AH → Prop := fun b h' => ∀ F' H', Ext F F' → Sim K F' h' H' → Q b H'
structure AO_ (X : Cx) (E : XK) (e : Option Expr) (w : WO) : Prop where
  run : PO X e (fun σ H Q => ∃ F ρ h, Sim X.K F h H ∧ EnvR X.K F ρ σ ∧ w ρ h (LO X.K F Q) (LX X.K F E))
  mo : MoO w
theorem ao_none : AO_ X E none woNone := by
  refine ⟨⟨fun pins s σ H Q I h => ?_⟩, fun ρ h Q Q' X X' hq _ q => hq _ _ q⟩
  obtain ⟨F, ρ, h, S, R, q⟩ := h
  exact po_none.run pins s σ H Q I (q F H (.refl F) S)
theorem ao_some (ha : AE X E a wa) : AO_ X E (some a) (woSome wa) := by
  refine ⟨⟨fun pins s σ H Q I h => ?_⟩, fun ρ h Q Q' X X' hq hx q => ha.mo _ _ _ _ _ _ (fun x h1 z => ?_) hx q⟩
  · obtain ⟨F, ρ, h, S, R, q⟩ := h
    refine (po_some ha.run).run pins s σ H Q I ⟨F, ρ, h, S, R, ha.mo _ _ _ _ _ _ (fun x h1 z => ?_) (fun _ _ z => z) q⟩
    intro F1 H1 v e1 S1 r
    split at z
    · cases r; exact ⟨_, rfl, z F1 H1 e1 S1⟩
    · exact z.elim
  · split at z
    · exact hq _ _ z
    · exact z.elim
def cutD {α : Type} (xs : List α) (lo hi : Option Int) : List α := (xs.drop (HT.sIx xs.length 0 lo)).take (HT.sIx xs.length xs.length hi - HT.sIx xs.length 0 lo)
theorem Reps.cut {K : PySem.W.Frag} {F : Hp} {xs : List D} {vs : List V} (r : Reps K F xs vs) (lo hi : Option Int) : Reps K F (cutD xs lo hi) (cutV vs lo hi) := by
  unfold cutD cutV
  rw [r.length]
  exact (r.drop _).take _
def dSl (m : Bool) (x : D) (lo hi : Option Int) (h : AH) (Q : KD) : Prop := match x with
  | .tup xs => Q (.tup (cutD xs lo hi)) h
  | .str s => s.length ≤ sizeLine ∧ Q (.str (Txt.slice s lo hi)) h
  | .ref a => match h a with
    | some (.lst xs) => newL m (cutD xs lo hi) h Q
    | some (.lck xs) => newL m (cutD xs lo hi) h Q
    | _ => False
  | .lst xs => newL m (cutD xs lo hi) h Q
  | .lk xs => newL m (cutD xs lo hi) h Q
  | _ => False
theorem dSl_mo {m : Bool} {x : D} {lo hi : Option Int} {h : AH} {Q Q' : KD} (hq : ∀ d h, Q d h → Q' d h) (q : dSl m x lo hi h Q) : dSl m x lo hi h Q' := by
  unfold dSl at *
  split at q
  · exact hq _ _ q
  · exact ⟨q.1, hq _ _ q.2⟩
  · split at q
    · exact newL_mo hq q
    · exact newL_mo hq q
    · exact q.elim
  · exact newL_mo hq q
  · exact newL_mo hq q
  · exact q.elim
def wSl (m : Bool) (a : WE) (lo hi : WO) : WE := fun ρ h Q X => a ρ h (fun x h1 => lo ρ h1 (fun l h2 => hi ρ h2 (fun u h3 => dSl m x l u h3 Q) X) X) X
def rSlD (K : PySem.W.Frag) : V → Option Int → Option Int → Hp → VK → Prop := fun x lo hi H Q => rSlA K x lo hi H Q ∨ (rSlX x lo hi H Q ∨ rSlL K x lo hi H Q)
theorem sl_all : SlR X (rSlD X.K) := SlR.or sl_tupA (SlR.or sl_txt sl_list)
theorem cut_whole {α : Type} {xs : List α} {lo hi : Option Int} (h : HT.sIx xs.length 0 lo = 0 ∧ HT.sIx xs.length xs.length hi = xs.length) : cutD xs lo hi = xs := by
  unfold cutD; rw [h.1, h.2]; simp
theorem dSl_to {K : PySem.W.Frag} {F : Hp} {h : AH} {H : Hp} {m : Bool} {x : D} {v : V} {lo hi : Option Int} {Q : VK} (S : Sim K F h H) (r : Rep K F x v) (q : dSl m x lo hi h (LQ K F Q)) : rSlD K v lo hi H Q := by
  unfold dSl at q
  split at q
  · cases r with
    | @tup a xs vs hs rs =>
      refine .inl ⟨a, vs, rfl, sqt_of S.fz hs, fun w => ?_, fun _ => S.newT (rs.cut lo hi) q⟩
      rw [cut_whole (by rw [rs.length]; exact w)] at q
      exact q.at S (.tup hs rs)
  · cases r; exact .inr (.inl ⟨_, rfl, q.1, q.2.at S (.str _)⟩)
  · rename_i a
    cases r
    split at q
    · rename_i xs e
      obtain ⟨_, u, hu, vs, rfl, rs⟩ := S.ob _ _ e
      exact .inr (.inr ⟨a, vs, rfl, .of hu, S.newL (rs.cut lo hi) q⟩)
    · rename_i xs e
      obtain ⟨_, u, hu, o, vs, rfl, rs⟩ := S.ob _ _ e
      exact .inr (.inr ⟨a, vs, rfl, .inl (.inr ⟨o, hu⟩), S.newL (rs.cut lo hi) q⟩)
    · exact q.elim
  · cases r with
    | @lst a xs vs hs rs => exact .inr (.inr ⟨a, vs, rfl, .of (S.fz _ _ hs), S.newL (rs.cut lo hi) q⟩)
  · cases r with
    | @lk a xs vs hs rs => exact .inr (.inr ⟨a, vs, rfl, Ext.sql S.fz hs, S.newL (rs.cut lo hi) q⟩)
  · exact q.elim
theorem ae_sl (m : Bool) {lo hi : Option Expr} {wlo whi : WO} {p2 : Pos} (ha : AE X E a wa) (hl : AO_ X E lo wlo) (hh : AO_ X E hi whi) : AE X E (.Subscript a (.Slice lo hi none p2) pos) (wSl m wa wlo whi) := by
  refine ⟨PE.imp (pe_slice sl_all ha.run hl.run hh.run) fun σ H Q ⟨F, ρ, g, S, R, q⟩ => ?_, fun ρ h Q Q' X X' hq hx q => ha.mo _ _ _ _ _ _ (fun x h1 z => hl.mo _ _ _ _ _ _ (fun l h2 z => hh.mo _ _ _ _ _ _ (fun u h3 z => dSl_mo hq z) hx z) hx z) hx q⟩
  refine ⟨F, ρ, g, S, R, ha.mo _ _ _ _ _ _ (fun x h1 z => ?_) (fun _ _ z => z) q⟩
  intro F1 H1 v e1 S1 r
  refine ⟨F1, ρ, h1, S1, R.ext e1, hl.mo _ _ _ _ _ _ (fun l h2 z => ?_) (fun _ _ z => LX.ext e1 z) z⟩
  intro F2 H2 e2 S2
  refine ⟨F2, ρ, h2, S2, R.ext (e1.trans e2), hh.mo _ _ _ _ _ _ (fun u h3 z => ?_) (fun _ _ z => LX.ext (e1.trans e2) z) z⟩
  intro F3 H3 e3 S3
  exact dSl_to S3 (r.ext (e2.trans e3)) (dSl_mo (fun _ _ z => LQ.ext (e1.trans (e2.trans e3)) z) z)
/-! ### x[i] = v, of a list -/
def gSubL (wo wi : WE) : WG := fun d ρ h Q X => wo ρ h (fun o h1 => wi ρ h1 (fun i h2 => ∃ a xs k j, o = .ref a ∧ i = .int k ∧ h2 a = some (.lst xs) ∧ ixN xs.length k = some j ∧ Q ρ (up h2 a (.lst (xs.set j d)))) X) X
theorem ag_subL (ho : AE X E o wo) (hi : AE X E i wi) (ha : ∀ v, assign (.Subscript o i pos) X.env v = (do
      let ov ← holding [v] (eval o X.env)
      let iv ← holding [v, ov] (eval i X.env)
      standAt pos
      holding [v, ov, iv] (setItem ov iv v)
      release [v, ov, iv] []) := by intro _; rfl) : AG X E (.Subscript o i pos) (gSubL wo wi) := by
  refine ⟨PG.imp (pg_sub ho.run hi.run set_list ha) fun v σ H Q ⟨F, ρ, g, d, S, R, r, q⟩ => ?_, fun d ρ h Q Q' X X' hq hx q => ho.mo _ _ _ _ _ _ (fun x h1 z => hi.mo _ _ _ _ _ _ (fun y h2 ⟨a, xs, k, j, e1, e2, e3, e4, z⟩ => ⟨a, xs, k, j, e1, e2, e3, e4, hq _ _ z⟩) hx z) hx q⟩
  refine ⟨F, ρ, g, S, R, ho.mo _ _ _ _ _ _ (fun x h1 z => ?_) (fun _ _ z => z) q⟩
  intro F1 H1 vo e1 S1 ro
  refine ⟨F1, ρ, h1, S1, R.ext e1, hi.mo _ _ _ _ _ _ (fun y h2 z => ?_) (fun _ _ z => LX.ext e1 z) z⟩
  intro F2 H2 vi e2 S2 ri
  obtain ⟨a, xs, k, j, rfl, rfl, ea, ej, z⟩ := z
  cases ri
  have ro2 := ro.ext e2
  cases ro2
  obtain ⟨_, u, hu, vs, rfl, rs⟩ := S2.ob _ _ ea
  exact ⟨a, vs, k, j, rfl, rfl, hu, by rw [← rs.length]; exact ej, z F2 _ σ (e1.trans e2) (S2.put ea (o := .lst (xs.set j d)) ⟨_, rfl, rs.set (r.ext (e1.trans e2)) j⟩) (R.ext (e1.trans e2))⟩
/-! ### methods of a list that changes it -/
structure MeD (K : PySem.W.Frag) (T : String) (rv : V → List V → Hp → VK → Prop) (f : D → List D → AH → KD → Prop) (ty : D → AH → Prop) : Prop where
  to : ∀ {F h H x xs vx vs} {Q : VK}, Sim K F h H → Rep K F x vx → Reps K F xs vs → f x xs h (LQ K F Q) → rv vx vs H Q
  ty : ∀ {F h H x vx}, Sim K F h H → Rep K F x vx → ty x h → tyV K T vx H
  mo : ∀ {x xs h} {Q Q' : KD}, (∀ d h, Q d h → Q' d h) → f x xs h Q → f x xs h Q'
def wMethT (ty : D → AH → Prop) (f : D → List D → AH → KD → Prop) (wo : WE) (wl : WA) : WE := fun ρ h Q X => wo ρ h (fun x h1 => ty x h1 ∧ wl ρ h1 (fun xs h2 => f x xs h2 Q) X) X
theorem ae_bm {T id : String} {name : Str} {rv : V → List V → Hp → VK → Prop} {f : D → List D → AH → KD → Prop} {ty : D → AH → Prop} {apos cpos : Pos} (M : MeD X.K T rv f ty) (hm : MtR X id rv)
    (pa : PlainAttrs T) (slot : Slot T name id) (hty : typeOf (.builtin id) = pure (.type "method_descriptor")) (ho : AE X E o wo) (ha : AA X E (e :: es) wl)
    (hbase : attributeBase o name X.env (eval o X.env) = eval o X.env := by rfl)
    (hfew : ((backTo cpos (starEach (e :: es) X.env)).all (fun x => !x.1) && (backToKw cpos (keywordEach [] X.env)).all (fun x => x.1.isSome)
      && decide ((e :: es).length + ([] : List Keyword).length + (if ([] : List Keyword).isEmpty then 0 else 1) < 30)) = true := by rfl)
    (hline : (apos.endLine == cpos.line) = true := by rfl) (hs : starEach (e :: es) X.env = (false, eval e X.env) :: starEach es X.env := by rfl) (hplain : (backTo cpos (starEach es X.env)).any (·.1) = false := by rfl) :
    AE X E (.Call (.Attribute o name apos) (e :: es) [] cpos) (wMethT ty f wo wl) := by
  refine ⟨PE.imp (pe_bm pa slot hty hm ho.run ha.run hbase hfew hline hs hplain) fun σ H Q ⟨F, ρ, g, S, R, q⟩ => ?_, fun ρ h Q Q' X X' hq hx q => ho.mo _ _ _ _ _ _ (fun x h1 z => ⟨z.1, ha.mo _ _ _ _ _ _ (fun xs h2 z => M.mo hq z) hx z.2⟩) hx q⟩
  refine ⟨F, ρ, g, S, R, ho.mo _ _ _ _ _ _ (fun x h1 z => ?_) (fun _ _ z => z) q⟩
  intro F1 H1 vx e1 S1 rx
  refine ⟨M.ty S1 rx z.1, F1, ρ, h1, S1, R.ext e1, ha.mo _ _ _ _ _ _ (fun xs h2 z => ?_) (fun _ _ z => LX.ext e1 z) z.2⟩
  intro F2 H2 vs e2 S2 rs
  exact M.to S2 (rx.ext e2) rs (M.mo (fun _ _ z => LQ.ext (e1.trans e2) z) z)
def isL (x : D) (h : AH) : Prop := ∃ xs, lstOf h x = some xs
theorem isL_ty {K : PySem.W.Frag} {F : Hp} {h : AH} {H : Hp} {x : D} {v : V} (S : Sim K F h H) (r : Rep K F x v) (t : isL x h) : tyV K "list" v H := by
  obtain ⟨xs, e⟩ := t
  obtain ⟨a, vs, rfl, ha, _⟩ := S.lstOf r e
  exact .inl ⟨rfl, vs, .of ha⟩
def dAppend (x : D) (ys : List D) (h : AH) (Q : KD) : Prop := ∃ a xs y, x = .ref a ∧ ys = [y] ∧ h a = some (.lst xs) ∧ xs.length < sizeLine ∧ Q .non (up h a (.lst (xs ++ [y])))
theorem dAppend_ok {K : PySem.W.Frag} : MeD K "list" rAppend dAppend isL where
  ty := isL_ty
  mo := fun hq ⟨a, xs, y, e1, e2, e3, e4, q⟩ => ⟨a, xs, y, e1, e2, e3, e4, hq _ _ q⟩
  to := by
    rintro F h H x ys vx vs Q S rx rs ⟨a, xs, y, rfl, rfl, e, l, q⟩
    cases rx
    cases rs with
    | cons r rs =>
      cases rs
      obtain ⟨_, u, hu, us, rfl, ru⟩ := S.ob _ _ e
      exact ⟨a, us, _, rfl, rfl, hu, by rw [← ru.length]; exact l, q F _ _ (.refl F) (S.put e (o := .lst (xs ++ [y])) ⟨_, rfl, ru.append (.cons r .nil)⟩) .non⟩
theorem ae_append {apos cpos : Pos} (ho : AE X E o wo) (ha : AA X E [e] wl) (hbase : attributeBase o "append" X.env (eval o X.env) = eval o X.env := by rfl)
    (hfew : ((backTo cpos (starEach [e] X.env)).all (fun x => !x.1) && (backToKw cpos (keywordEach [] X.env)).all (fun x => x.1.isSome) && decide ([e].length + ([] : List Keyword).length + (if ([] : List Keyword).isEmpty then 0 else 1) < 30)) = true := by rfl)
    (hline : (apos.endLine == cpos.line) = true := by rfl) (hs : starEach [e] X.env = (false, eval e X.env) :: starEach [] X.env := by rfl) (hplain : (backTo cpos (starEach [] X.env)).any (·.1) = false := by rfl) :
    AE X E (.Call (.Attribute o "append" apos) [e] [] cpos) (wMethT isL dAppend wo wl) :=
  ae_bm dAppend_ok mt_append PySem.F.plainAttrs_list PySem.F.slot_list_append PySem.F.type_list_append ho ha hbase hfew hline hs hplain
end
/-! ### built-ins -/
def lenD (h : AH) (x : D) : Option Nat := match cur h x with
  | .tup xs => some xs.length
  | .tpl xs => some xs.length
  | .lst xs => some xs.length
  | .dK xs => some xs.length
  | .str s => some s.length
  | _ => none
def dLen (ds : List D) (h : AH) (Q : KD) : Prop := match ds with
  | [.str s] => s.length ≤ sizeLine ∧ Q (.int s.length) h
  | [x] => ∃ n, lenD h x = some n ∧ Q (.int (n : Nat)) h
  | _ => False
def dAbs (ds : List D) (h : AH) (Q : KD) : Prop := match ds with
  | [.int i] => Q (.int (if i < 0 then -i else i)) h
  | _ => False
def dInt (ds : List D) (h : AH) (Q : KD) : Prop := match ds with
  | [.int i] => Q (.int i) h
  | [.bl b] => Q (.int (if b then 1 else 0)) h
  | _ => False
def dMax2 (ds : List D) (h : AH) (Q : KD) : Prop := match ds with
  | [.int i, .int j] => Q (.int (if j > i then j else i)) h
  | _ => False
def dMin2 (ds : List D) (h : AH) (Q : KD) : Prop := match ds with
  | [.int i, .int j] => Q (.int (if j < i then j else i)) h
  | _ => False
def dSum (ds : List D) (h : AH) (Q : KD) : Prop := ∃ (x : D) (ns : List Int), ds = [x] ∧ lstOf h x = some (ns.map D.int) ∧ Q (.int ns.sum) h
def dListOf (m : Bool) (ds : List D) (h : AH) (Q : KD) : Prop := ∃ x xs, ds = [x] ∧ seqOf h x = some xs ∧ newL m xs h Q
def dTupOf (ds : List D) (h : AH) (Q : KD) : Prop := ∃ x xs, ds = [x] ∧ seqOf h x = some xs ∧ Q (.tup xs) h
def tyD (h : AH) (x : D) : Option String := match cur h x with
  | .non => some "NoneType"
  | .bl _ => some "bool"
  | .int _ => some "int"
  | .str _ => some "str"
  | .tup _ => some "tuple"
  | .tpl _ => some "tuple"
  | .lst _ => some "list"
  | .dK _ => some "dict"
  | .dT _ => some "dict"
  | _ => none
def dIsi (ds : List D) (h : AH) (Q : KD) : Prop := ∃ x t n b, ds = [x, .ty n] ∧ tyD h x = some t ∧ L2.kitB t n = some b ∧ Q (.bl b) h
def dRepr (ds : List D) (h : AH) (Q : KD) : Prop := ∃ x, ds = [x] ∧ dat (cur h x) = true ∧ (pd (cur h x)).showable = true ∧ (pd (cur h x)).depth ≤ 60 ∧ (pd (cur h x)).shown.length ≤ sizeLine ∧ Q (.str (pd (cur h x)).shown) h
end DL
namespace DL
open PySem PySem.Spec L2 C8
section
variable {K : PySem.W.Frag} {F : Hp} {h : AH} {H : Hp}
theorem Reps.one {d : D} {vs : List V} (r : Reps K F [d] vs) : ∃ v, vs = [v] ∧ Rep K F d v := by
  cases r with | cons r rs => cases rs; exact ⟨_, rfl, r⟩
theorem Reps.two {d e : D} {vs : List V} (r : Reps K F [d, e] vs) : ∃ v w, vs = [v, w] ∧ Rep K F d v ∧ Rep K F e w := by
  cases r with | cons r rs => cases rs with | cons q qs => cases qs; exact ⟨_, _, rfl, r, q⟩
theorem Reps.ints : ∀ {ns : List Int} {vs : List V}, Reps K F (ns.map D.int) vs → vs = ns.map V.int
  | [], _, .nil => rfl
  | n :: ns, _, .cons r t => by cases r; rw [Reps.ints t]; rfl
theorem Sim.intsOf {x : D} {v : V} {ns : List Int} (S : Sim K F h H) (r : Rep K F x v) (e : DL.lstOf h x = some (ns.map D.int)) : ∃ a, v = .ref a ∧ SqL K H a (ns.map V.int) := by
  obtain ⟨a, vs, rfl, ha, rs⟩ := S.lstOf r e
  rw [rs.ints] at ha
  exact ⟨a, rfl, .of ha⟩
end
section
variable {X : Cx}
theorem dAbs_ok : CaD X (.builtin "abs") dAbs where
  ex := ⟨_, call_abs, fun {F h H ds vs Q} S r q => by
    unfold dAbs at q; split at q
    · obtain ⟨v, rfl, r1⟩ := r.one; cases r1; exact ⟨_, rfl, q.at S (.int _)⟩
    · exact q.elim⟩
  mo := fun {ds h Q Q'} hq q => by
    unfold dAbs at *; split at q
    · exact hq _ _ q
    · exact q.elim
theorem dInt_ok : CaD X (.type "int") dInt where
  ex := ⟨_, call_int1, fun {F h H ds vs Q} S r q => by
    unfold dInt at q; split at q
    · obtain ⟨v, rfl, r1⟩ := r.one; cases r1; exact .inl ⟨_, rfl, q.at S (.int _)⟩
    · obtain ⟨v, rfl, r1⟩ := r.one; cases r1; exact .inr ⟨_, rfl, q.at S (.int _)⟩
    · exact q.elim⟩
  mo := fun {ds h Q Q'} hq q => by
    unfold dInt at *; split at q
    · exact hq _ _ q
    · exact hq _ _ q
    · exact q.elim
theorem dMax2_ok (hc : X.calm = true) : CaD X (.builtin "max") dMax2 where
  ex := ⟨_, call_max2 hc, fun {F h H ds vs Q} S r q => by
    unfold dMax2 at q; split at q
    · obtain ⟨v, w, rfl, r1, r2⟩ := r.two; cases r1; cases r2; exact ⟨_, _, rfl, q.at S (.int _)⟩
    · exact q.elim⟩
  mo := fun {ds h Q Q'} hq q => by
    unfold dMax2 at *; split at q
    · exact hq _ _ q
    · exact q.elim
theorem dMin2_ok (hc : X.calm = true) : CaD X (.builtin "min") dMin2 where
  ex := ⟨_, call_min2 hc, fun {F h H ds vs Q} S r q => by
    unfold dMin2 at q; split at q
    · obtain ⟨v, w, rfl, r1, r2⟩ := r.two; cases r1; cases r2; exact ⟨_, _, rfl, q.at S (.int _)⟩
    · exact q.elim⟩
  mo := fun {ds h Q Q'} hq q => by
    unfold dMin2 at *; split at q
    · exact hq _ _ q
    · exact q.elim
theorem dSum_ok (hc : X.calm = true) : CaD X (.builtin "sum") dSum where
  ex := ⟨_, cr_sum hc, fun {F h H ds vs Q} S r q => by
    obtain ⟨x, ns, rfl, e, q⟩ := q
    obtain ⟨v, rfl, r1⟩ := r.one
    obtain ⟨a, rfl, ha⟩ := S.intsOf r1 e
    exact ⟨a, ns, rfl, ha, q.at S (.int _)⟩⟩
  mo := fun {ds h Q Q'} hq ⟨x, ns, e, e2, q⟩ => ⟨x, ns, e, e2, hq _ _ q⟩
theorem dListOf_ok {m : Bool} : CaD X (.type "list") (dListOf m) where
  ex := ⟨_, call_list_of, fun {F h H ds vs Q} S r q => by
    obtain ⟨x, xs, rfl, e, q⟩ := q
    obtain ⟨v, rfl, r1⟩ := r.one
    obtain ⟨a, us, rfl, ha, rs⟩ := S.seqOf r1 e
    exact ⟨a, us, rfl, ha, S.newL rs q⟩⟩
  mo := fun {ds h Q Q'} hq ⟨x, ns, e, e2, q⟩ => ⟨x, ns, e, e2, newL_mo hq q⟩
theorem dTupOf_ok : CaD X (.type "tuple") dTupOf where
  ex := ⟨_, call_tuple_of, fun {F h H ds vs Q} S r q => by
    obtain ⟨x, xs, rfl, e, q⟩ := q
    obtain ⟨v, rfl, r1⟩ := r.one
    by_cases c : ∃ ys, x = .tup ys
    · obtain ⟨ys, rfl⟩ := c
      cases e
      cases r1 with
      | @tup a _ ws hs rs => exact ⟨a, ws, rfl, .inr ⟨sqt_of S.fz hs, q.at S (.tup hs rs)⟩⟩
    by_cases c2 : ∃ ys, x = .tpl ys
    · obtain ⟨ys, rfl⟩ := c2
      cases e
      cases r1 with
      | @tpl a _ _ ws hs _ rs => exact ⟨a, ws, rfl, .inr ⟨sqt_of S.fz (.inl (.inr ⟨_, hs⟩)), q.at S (.tup (.inl (.inr ⟨_, hs⟩)) rs)⟩⟩
    · have e' : lstOf h x = some xs := by
        cases x <;> first | exact e | exact absurd ⟨_, rfl⟩ c | exact absurd ⟨_, rfl⟩ c2
      obtain ⟨a, us, rfl, ha, rs⟩ := S.lstOf r1 e'
      exact ⟨a, us, rfl, .inl ⟨.of ha, S.newT rs q⟩⟩⟩
  mo := fun {ds h Q Q'} hq ⟨x, ns, e, e2, q⟩ => ⟨x, ns, e, e2, hq _ _ q⟩
def rLenD (K : PySem.W.Frag) : List V → Hp → VK → Prop := fun xs H Q => (∃ z, xs = [V.str z] ∧ z.length ≤ sizeLine ∧ Q (.int z.length) H) ∨ ((∃ p ys, xs = [V.ref p] ∧ (SqL K H p ys ∨ SqT K H p ys) ∧ Q (.int ys.length) H) ∨ ∃ a kvs, xs = [V.ref a] ∧ H a = some (.dK kvs) ∧ Q (.int kvs.length) H)
theorem RepK.length {K : PySem.W.Frag} {F : Hp} : ∀ {xs : List (Key × D)} {vs : List (Key × V)}, RepK K F xs vs → xs.length = vs.length
  | _, _, .nil => rfl
  | _, _, .cons _ t => by simp [RepK.length t]
theorem dLen_ok : CaD X (.builtin "len") dLen where
  ex := ⟨rLenD X.K, CallR.or call_len_str (CallR.or call_len_seq call_lenD), fun {F h H ds vs Q} S r q => by
    unfold dLen at q
    split at q
    · obtain ⟨v, rfl, r1⟩ := r.one; cases r1
      exact .inl ⟨_, rfl, q.1, q.2.at S (.int _)⟩
    · obtain ⟨n, e, q⟩ := q
      obtain ⟨v, rfl, r1⟩ := r.one
      cases r1 with
      | ref a =>
        cases ea : h a with
        | none => simp [lenD, cur, ea] at e
        | some o =>
          obtain ⟨_, u, hu, ro⟩ := S.ob _ _ ea
          cases o with
          | lst xs =>
            obtain ⟨us, rfl, rs⟩ := ro
            simp only [lenD, cur, ea, Option.some.injEq] at e
            subst e
            exact .inr (.inl ⟨a, us, rfl, .inl (.of hu), by rw [← rs.length]; exact q.at S (.int _)⟩)
          | dK xs =>
            obtain ⟨us, rfl, rs⟩ := ro
            simp only [lenD, cur, ea, Option.some.injEq] at e
            subst e
            exact .inr (.inr ⟨a, us, rfl, hu, by rw [← rs.length]; exact q.at S (.int _)⟩)
          | dT _ => simp [lenD, cur, ea] at e
          | ins _ _ => simp [lenD, cur, ea] at e
          | lck _ => simp [lenD, cur, ea] at e
          | lckK _ _ => simp [lenD, cur, ea] at e
          | tab _ => simp [lenD, cur, ea] at e
      | @tup a xs us hs rs =>
        simp only [lenD, cur, Option.some.injEq] at e
        subst e
        exact .inr (.inl ⟨a, us, rfl, .inr (sqt_of S.fz hs), by rw [← rs.length]; exact q.at S (.int _)⟩)
      | @tpl a ob xs us hs hd rs =>
        simp only [lenD, cur, Option.some.injEq] at e
        subst e
        exact .inr (.inl ⟨a, us, rfl, .inr (sqt_of S.fz (.inl (.inr ⟨_, hs⟩))), by rw [← rs.length]; exact q.at S (.int _)⟩)
      | @lst a xs us hs rs =>
        simp only [lenD, cur, Option.some.injEq] at e
        subst e
        exact .inr (.inl ⟨a, us, rfl, .inl (.of (S.fz _ _ hs)), by rw [← rs.length]; exact q.at S (.int _)⟩)
      | @dK a xs us hs rs =>
        simp only [lenD, cur, Option.some.injEq] at e
        subst e
        exact .inr (.inr ⟨a, us, rfl, S.fz _ _ hs, by rw [← rs.length]; exact q.at S (.int _)⟩)
      | dT _ _ => simp [lenD, cur] at e
      | str s => rename_i hn; exact absurd rfl (hn s)
      | non => simp [lenD, cur] at e
      | bl _ => simp [lenD, cur] at e
      | int _ => simp [lenD, cur] at e
      | ty _ => simp [lenD, cur] at e
      | lk _ _ => simp [lenD, cur] at e
      | ob _ _ => simp [lenD, cur] at e
      | xob0 _ => simp [lenD, cur] at e
      | lam _ _ => simp [lenD, cur] at e
      | xob _ _ _ => simp [lenD, cur] at e
    · exact q.elim⟩
  mo := fun {ds h Q Q'} hq q => by
    unfold dLen at *; split at q
    · exact ⟨q.1, hq _ _ q.2⟩
    · obtain ⟨n, e, q⟩ := q; exact ⟨n, e, hq _ _ q⟩
    · exact q.elim
/-- the type of a value -/
theorem Sim.tyD {K : PySem.W.Frag} {F : Hp} {h : AH} {H : Hp} {x : D} {v : V} {t : String} (S : Sim K F h H) (r : Rep K F x v) (e : DL.tyD h x = some t) : TyX K H v (.type t) := by
  cases r with
  | ref a =>
    cases ea : h a with
    | none => simp [DL.tyD, cur, ea] at e
    | some o =>
      obtain ⟨_, u, hu, ro⟩ := S.ob _ _ ea
      cases o with
      | lst xs => obtain ⟨us, rfl, rs⟩ := ro; simp only [DL.tyD, cur, ea, Option.some.injEq] at e; subst e; exact .base (.lst hu)
      | dK xs => obtain ⟨us, rfl, rs⟩ := ro; simp only [DL.tyD, cur, ea, Option.some.injEq] at e; subst e; exact .base (.dK hu)
      | dT xs => obtain ⟨us, rfl, rs⟩ := ro; simp only [DL.tyD, cur, ea, Option.some.injEq] at e; subst e; exact .base (.dT hu)
      | ins _ _ => simp [DL.tyD, cur, ea] at e
      | lck _ => simp [DL.tyD, cur, ea] at e
      | lckK _ _ => simp [DL.tyD, cur, ea] at e
      | tab _ => simp [DL.tyD, cur, ea] at e
  | non => simp only [DL.tyD, cur, Option.some.injEq] at e; subst e; exact .base .non
  | bl b => simp only [DL.tyD, cur, Option.some.injEq] at e; subst e; exact .base (.bl b)
  | int i => simp only [DL.tyD, cur, Option.some.injEq] at e; subst e; exact .base (.int i)
  | str s => simp only [DL.tyD, cur, Option.some.injEq] at e; subst e; exact .base (.str s)
  | ty n => simp [DL.tyD, cur] at e
  | lk _ _ => simp [DL.tyD, cur] at e
  | ob _ _ => simp [DL.tyD, cur] at e
  | xob0 _ => simp [DL.tyD, cur] at e
  | lam _ _ => simp [DL.tyD, cur] at e
  | xob _ _ _ => simp [DL.tyD, cur] at e
  | tup hs rs =>
    simp only [DL.tyD, cur, Option.some.injEq] at e; subst e
    rcases sqt_of S.fz hs with (q | ⟨o, q⟩) | ⟨o, its, n, q, c, _⟩
    · exact .base (.tup q)
    · exact .fTuple q
    · exact .kTuple q c
  | tpl hs hd rs => simp only [DL.tyD, cur, Option.some.injEq] at e; subst e; exact .fTuple (S.fz _ _ hs)
  | lst hs rs => simp only [DL.tyD, cur, Option.some.injEq] at e; subst e; exact .base (.lst (S.fz _ _ hs))
  | dK hs rs => simp only [DL.tyD, cur, Option.some.injEq] at e; subst e; exact .base (.dK (S.fz _ _ hs))
  | dT hs rs => simp only [DL.tyD, cur, Option.some.injEq] at e; subst e; exact .base (.dT (S.fz _ _ hs))
theorem dIsi_ok : CaD X (.builtin "isinstance") dIsi where
  ex := ⟨_, call_isi, fun {F h H ds vs Q} S r q => by
    obtain ⟨x, t, n, b, rfl, et, eb, q⟩ := q
    obtain ⟨v, w, rfl, r1, r2⟩ := r.two
    cases r2
    exact ⟨v, .ty n, .type t, .type n, b, rfl, .ty n, S.tyD r1 et, kit_ty eb, q.at S (.bl _)⟩⟩
  mo := fun {ds h Q Q'} hq ⟨x, t, n, b, e, e1, e2, q⟩ => ⟨x, t, n, b, e, e1, e2, hq _ _ q⟩
/-! ### repr -/
theorem call_reprD (hg : X.A.guards = some []) (hu : X.A.units + 64 < cLine) : CallR X (.builtin "repr") (fun vs H Q => ∃ x d, vs = [x] ∧ Dp X.K H x d ∧ d.hasDict = false ∧ d.showable = true ∧ d.depth ≤ 60 ∧ d.shown.length ≤ sizeLine ∧ Q (.str d.shown) H) := by
  intro pins s σ H xs us Q I r h
  obtain ⟨x, d, rfl, hd, hn, hs, dp, hz, q⟩ := h
  obtain ⟨u, rfl, rx⟩ : ∃ u, us = [u] ∧ RelV x u := by cases r with | cons r t => cases t; exact ⟨_, rfl, r⟩
  obtain ⟨as, rd⟩ := Dp.reads I d x u hd rx
  cases rd with
  | none => exact PySem.P.repr_of_none ⟨.str _, H, I.tok _, ⟨_, rfl⟩, by rw [PyData.shown] at q; exact q⟩
  | bool b => exact PySem.P.repr_of_bool ⟨.str _, H, I.tok _, ⟨_, rfl⟩, by rw [PyData.shown] at q; exact q⟩
  | int i t =>
    refine PySem.P.repr_of_int (by rw [PyData.showable] at hs; exact of_decide_eq_true hs) ⟨.str _, H, I.tok _, ⟨_, rfl⟩, by rw [PyData.shown] at q; exact q⟩
  | str x t => exact PySem.P.repr_of_str ⟨.str _, H, I.tok _, ⟨_, rfl⟩, by rw [PyData.shown] at q; exact q⟩ (by rw [PyData.shown] at hz; exact hz)
  | list a b c e => exact repr_of_reads' (.list a b c e) hs (fun z => by rw [hn] at z; cases z) hg (by omega) (fun _ _ z => z) (fun h' u tk k => ⟨.str _, H, I.kept k, ⟨_, rfl⟩, q⟩) hz
  | tuple a b c e => exact repr_of_reads' (.tuple a b c e) hs (fun z => by rw [hn] at z; cases z) hg (by omega) (fun _ _ z => z) (fun h' u tk k => ⟨.str _, H, I.kept k, ⟨_, rfl⟩, q⟩) hz
  | dict _ _ _ _ _ => cases hd
mutual
theorem noDict : ∀ d : D, (pd d).hasDict = false
  | .non => by rw [pd, PyData.hasDict]
  | .bl _ => by rw [pd, PyData.hasDict]
  | .int _ => by rw [pd, PyData.hasDict]
  | .str _ => by rw [pd, PyData.hasDict]
  | .tup xs => by rw [pd, PyData.hasDict]; exact noDicts xs
  | .tpl xs => by rw [pd, PyData.hasDict]; exact noDicts xs
  | .lst xs => by rw [pd, PyData.hasDict]; exact noDicts xs
  | .ref _ => by rw [pd, PyData.hasDict]
  | .ty _ => by rw [pd, PyData.hasDict]
  | .lk _ => by rw [pd, PyData.hasDict]
  | .ob _ _ => by rw [pd, PyData.hasDict]
  | .xob _ _ => by rw [pd, PyData.hasDict]
  | .lam _ _ _ _ _ => by rw [pd, PyData.hasDict]
  | .dK _ => by rw [pd, PyData.hasDict]
  | .dT _ => by rw [pd, PyData.hasDict]
theorem noDicts : ∀ ds : List D, PyData.hasDictAll (pds ds) = false
  | [] => by rw [pds, PyData.hasDictAll]
  | d :: ds => by rw [pds, PyData.hasDictAll, noDict d, noDicts ds]; rfl
end
theorem dRepr_ok (hg : X.A.guards = some []) (hu : X.A.units + 64 < cLine) : CaD X (.builtin "repr") dRepr where
  ex := ⟨_, call_reprD hg hu, fun {F h H ds vs Q} S r q => by
    obtain ⟨x, rfl, e1, e2, e3, e4, q⟩ := q
    obtain ⟨v, rfl, r1⟩ := r.one
    exact ⟨v, _, rfl, S.curDp r1 e1, noDict _, e2, e3, e4, q.at S (.str _)⟩⟩
  mo := fun {ds h Q Q'} hq ⟨x, e, e1, e2, e3, e4, q⟩ => ⟨x, e, e1, e2, e3, e4, hq _ _ q⟩
end
end DL
namespace DL
open PySem PySem.Spec L2 C8
/-! ### one more built-in runs around -/
/-! ### d.items() as a value, d with keys that are ints or texts -/
def rItemsV : V → List V → Hp → VK → Prop := fun x xs H Q => ∃ (a : Addr) (kvs : List (Key × V)), x = .ref a ∧ xs = [] ∧ H a = some (.dK kvs) ∧ ∀ p, H p = none → Q (.ref p) (upd H p (L2.DX.itemsO p a))
section
variable {X : Cx}
theorem mt_itemsV : MtR X "dict.items" rItemsV := by
  intro pins s σ H x xs v us Q I rx rs h
  obtain ⟨a, kvs, rfl, rfl, ha, q⟩ := h
  cases rx
  cases rs
  obtain ⟨z, hd, vs, kv, o, es, ep, ho, hx, hdt, _⟩ := dk_of I.hok ha
  have hf : H s.heap.objs.size = none := I.hok.fresh (Nat.le_refl _)
  refine DT.callItems (es := es) (ep := ep) hd ⟨o, ho, hx, hdt⟩ ?_
  exact ⟨.ref s.heap.objs.size, _, I.laid (t' := s.toks) (fun b u e => Heap.get?_push_of_some _ e) (Nat.le_refl _) (L2.DX.itemsO_ok (Heap.get?_push_size _ rfl)), rfl, q _ hf⟩
end
end DL
namespace DL
open PySem PySem.Spec L2 C8
/-! ### dicts with keys that are ints or texts -/
def keyD : D → Option Key
  | .int i => some (.inl i)
  | .str s => some (.inr s)
  | _ => none
def valD (kvs : List (Key × D)) (k : Key) : Option D := (kvs.find? fun kv => decide (kv.1 = k)).map (·.2)
def putD (kvs : List (Key × D)) (k : Key) (v : D) : List (Key × D) :=
  if (kvs.any fun kv => decide (kv.1 = k)) = true then kvs.map (fun kv => if kv.1 = k then (kv.1, v) else kv) else kvs ++ [(k, v)]
def dkOf (h : AH) : D → Option (List (Key × D))
  | .dK xs => some xs
  | .ref a => match h a with
    | some (.dK xs) => some xs
    | _ => none
  | _ => none
section
variable {K : PySem.W.Frag} {F : Hp} {h : AH} {H : Hp} {d : D} {v : V}
theorem RepK.val : ∀ {kvs : List (Key × D)} {vs : List (Key × V)}, RepK K F kvs vs → ∀ k : Key, (valD kvs k = none ∧ valV vs k = none) ∨ ∃ d v, valD kvs k = some d ∧ valV vs k = some v ∧ Rep K F d v
  | _, _, .nil, k => .inl ⟨rfl, rfl⟩
  | _, _, @RepK.cons _ _ k0 x u xs us r t, k => by
    by_cases c : k0 = k
    · subst c
      exact .inr ⟨x, u, by simp [valD], by simp [valV], r⟩
    · have e1 : valD ((k0, x) :: xs) k = valD xs k := by simp [valD, List.find?_cons, c]
      have e2 : valV ((k0, u) :: us) k = valV us k := by simp [valV, List.find?_cons, c]
      rw [e1, e2]
      exact RepK.val t k
theorem RepK.keys : ∀ {kvs : List (Key × D)} {vs : List (Key × V)}, RepK K F kvs vs → kvs.map (·.1) = vs.map (·.1)
  | _, _, .nil => rfl
  | _, _, .cons _ t => by simp [RepK.keys t]
theorem RepK.append : ∀ {xs ys : List (Key × D)} {vs ws : List (Key × V)}, RepK K F xs vs → RepK K F ys ws → RepK K F (xs ++ ys) (vs ++ ws)
  | _, _, _, _, .nil, s => s
  | _, _, _, _, .cons h t, s => .cons h (RepK.append t s)
theorem RepK.any : ∀ {kvs : List (Key × D)} {vs : List (Key × V)}, RepK K F kvs vs → ∀ k : Key, (kvs.any fun kv => decide (kv.1 = k)) = (vs.any fun kv => decide (kv.1 = k))
  | _, _, .nil, _ => rfl
  | _, _, .cons _ t, k => by simp only [List.any_cons]; rw [RepK.any t k]
theorem RepK.repl {k : Key} {x : D} {u : V} (r : Rep K F x u) : ∀ {kvs : List (Key × D)} {vs : List (Key × V)}, RepK K F kvs vs → RepK K F (kvs.map fun kv => if kv.1 = k then (kv.1, x) else kv) (vs.map fun kv => if kv.1 = k then (kv.1, u) else kv)
  | _, _, .nil => .nil
  | _, _, @RepK.cons _ _ k0 y w ys ws q t => by
    simp only [List.map_cons]
    by_cases c : k0 = k
    · rw [if_pos c, if_pos c]; exact .cons r (RepK.repl r t)
    · rw [if_neg c, if_neg c]; exact .cons q (RepK.repl r t)
theorem RepK.put {kvs : List (Key × D)} {vs : List (Key × V)} (t : RepK K F kvs vs) (k : Key) {x : D} {u : V} (r : Rep K F x u) : RepK K F (putD kvs k x) (putK vs k u) := by
  unfold putD putK
  rw [t.any k]
  split
  · exact RepK.repl r t
  · exact t.append (.cons r .nil)
theorem keyD_to {d : D} {v : V} {k : Key} (r : Rep K F d v) (e : keyD d = some k) : v = kV k := by
  cases r <;> first | (simp [keyD] at e; done) | (simp only [keyD, Option.some.injEq] at e; subst e; rfl)
theorem Sim.dkOf {kvs : List (Key × D)} (S : Sim K F h H) (r : Rep K F d v) (e : DL.dkOf h d = some kvs) : ∃ a vs, v = .ref a ∧ H a = some (.dK vs) ∧ RepK K F kvs vs := by
  cases r with
  | ref a =>
    cases q : h a with
    | none => simp [DL.dkOf, q] at e
    | some o =>
      cases o with
      | dK ys =>
        simp only [DL.dkOf, q, Option.some.injEq] at e
        subst e
        obtain ⟨_, u, hu, vs, rfl, rs⟩ := S.ob _ _ q
        exact ⟨a, vs, rfl, hu, rs⟩
      | lst _ => simp [DL.dkOf, q] at e
      | dT _ => simp [DL.dkOf, q] at e
      | ins _ _ => simp [DL.dkOf, q] at e
      | lck _ => simp [DL.dkOf, q] at e
      | lckK _ _ => simp [DL.dkOf, q] at e
      | tab _ => simp [DL.dkOf, q] at e
  | @dK a ys vs hf rs =>
    cases e
    exact ⟨a, vs, rfl, S.fz _ _ hf, rs⟩
  | non => cases e
  | bl _ => cases e
  | int _ => cases e
  | str _ => cases e
  | ty _ => cases e
  | lk _ _ => cases e
  | ob _ _ => cases e
  | xob0 _ => cases e
  | lam _ _ => cases e
  | xob _ _ _ => cases e
  | tup _ _ => cases e
  | tpl _ _ _ => cases e
  | lst _ _ => cases e
  | dT _ _ => cases e
/-- what stands anew behind a call is taken as what does not change -/
theorem Sim.grow {H' : Hp} (S : Sim K F h H) (sm : ∀ b o, H b = some o → H' b = some o) (P : Addr → Bool) : ∃ F', Ext F F' ∧ Sim K F' h H' ∧ (∀ b, H b = none → P b = true → F' b = H' b) ∧ ∀ b, H b = none → P b = false → ∀ o, F' b ≠ some o := by
  refine ⟨fun b => if (H b).isNone = true ∧ P b = true then H' b else F b, fun b o e => ?_, ⟨fun b o e => ?_, fun b o e => ?_⟩, fun b e p => ?_, fun b e p o q => ?_⟩
  · have : H b = some o := S.fz _ _ e
    show (if (H b).isNone = true ∧ P b = true then H' b else F b) = some o
    rw [this]; simp [e]
  · split at e
    · exact e
    · exact sm _ _ (S.fz _ _ e)
  · obtain ⟨f, u, hu, r⟩ := S.ob _ _ e
    refine ⟨by simp [hu, f], u, sm _ _ hu, r.ext fun c w q => ?_⟩
    have : H c = some w := S.fz _ _ q
    simp [this, q]
  · simp [e, p]
  · simp [p, (S.free e).1] at q
end
section
variable {X : Cx} {E : XK} {k : Nat} {o i e f value : Expr} {wo wi we wf wv : WE} {pos cpos apos pos' p : Pos}
def wDnew : WE := fun _ h Q _ => ∀ p, h p = none → Q (.ref p) (up h p (.dK []))
theorem ae_dnew : AE X E (.Dict [] [] pos) wDnew := by
  refine ⟨PE.imp pe_dnewK fun σ H Q ⟨F, ρ, h, S, R, q⟩ => ?_, fun ρ h Q Q' X X' hq _ q p e => hq _ _ (q p e)⟩
  intro p hp
  obtain ⟨f, g⟩ := S.free hp
  exact q p g F _ _ (.refl F) (S.newM hp (o := .dK []) ⟨[], rfl, .nil⟩) (.ref p)
/-- d.get(k, x) -/
def wGet2 (wo wi wx : WE) : WE := fun ρ h Q X => wo ρ h (fun x h1 => (dkOf h1 x).isSome = true ∧ wi ρ h1 (fun y h2 => wx ρ h2 (fun z h3 => ∃ kvs k, dkOf h3 x = some kvs ∧ keyD y = some k ∧ Q ((valD kvs k).getD z) h3) X) X) X
theorem ae_get2 (c : Cg gz X E k) (ho : AE X E o wo) (he : AE X E e we) (hf : AE X E f wf) (m : M2 X o "get" apos e f cpos) : AE X E (.Call (.Attribute o "get" apos) [e, f] [] cpos) (wGet2 wo we wf) := by
  refine ⟨PE.imp (pe_dget2 (hu_of c.room) ho.run he.run hf.run m) fun σ H Q ⟨F, ρ, h, S, R, q⟩ => ?_, fun ρ h Q Q' X X' hq hx q => ho.mo _ _ _ _ _ _ (fun x h1 z => ⟨z.1, he.mo _ _ _ _ _ _ (fun y h2 z => hf.mo _ _ _ _ _ _ (fun w h3 ⟨kvs, k, e1, e2, z⟩ => ⟨kvs, k, e1, e2, hq _ _ z⟩) hx z) hx z.2⟩) hx q⟩
  refine ⟨F, ρ, h, S, R, ho.mo _ _ _ _ _ _ (fun x h1 z => ?_) (fun _ _ z => z) q⟩
  intro F1 H1 v e1 S1 r
  obtain ⟨kv0, hk0⟩ := Option.isSome_iff_exists.mp z.1
  obtain ⟨a, vs, rfl, ha, rs⟩ := S1.dkOf r hk0
  refine ⟨a, rfl, .inl ⟨vs, .of ha⟩, F1, ρ, h1, S1, R.ext e1, he.mo _ _ _ _ _ _ (fun y h2 z => ?_) (fun _ _ z => LX.ext e1 z) z.2⟩
  intro F2 H2 vy e2 S2 ry
  refine ⟨F2, ρ, h2, S2, R.ext (e1.trans e2), hf.mo _ _ _ _ _ _ (fun w h3 z => ?_) (fun _ _ z => LX.ext (e1.trans e2) z) z⟩
  intro F3 H3 vw e3 S3 rw'
  obtain ⟨kvs, kk, ek, ey, z⟩ := z
  obtain ⟨a', vs', ea, ha', rs'⟩ := S3.dkOf (r.ext (e2.trans e3)) ek
  cases ea
  have hy := keyD_to (ry.ext e3) ey
  have e123 := e1.trans (e2.trans e3)
  rcases rs'.val kk with ⟨n1, n2⟩ | ⟨d, v, n1, n2, rv⟩
  · refine ⟨none, .inl ⟨vs', kk, .of ha', hy, n2.symm⟩, ?_⟩
    rw [n1] at z
    exact z F3 H3 _ e123 S3 rw'
  · refine ⟨some v, .inl ⟨vs', kk, .of ha', hy, n2.symm⟩, ?_⟩
    rw [n1] at z
    exact z F3 H3 _ e123 S3 rv
/-- d[k] -/
def wDGet (wo wi : WE) : WE := fun ρ h Q X => wo ρ h (fun x h1 => wi ρ h1 (fun y h2 => ∃ kvs k d, dkOf h2 x = some kvs ∧ keyD y = some k ∧ valD kvs k = some d ∧ Q d h2) X) X
theorem ae_dget (c : Cg gz X E k) (ho : AE X E o wo) (hi : AE X E i wi) (hs : NoSl i) : AE X E (.Subscript o i pos) (wDGet wo wi) := by
  refine ⟨PE.imp (pe_dget (hu_of c.room) ho.run hi.run hs) fun σ H Q ⟨F, ρ, h, S, R, q⟩ => ?_, fun ρ h Q Q' X X' hq hx q => ho.mo _ _ _ _ _ _ (fun x h1 z => hi.mo _ _ _ _ _ _ (fun y h2 ⟨kvs, k, d, e1, e2, e3, z⟩ => ⟨kvs, k, d, e1, e2, e3, hq _ _ z⟩) hx z) hx q⟩
  refine ⟨F, ρ, h, S, R, ho.mo _ _ _ _ _ _ (fun x h1 z => ?_) (fun _ _ z => z) q⟩
  intro F1 H1 v e1 S1 r
  refine ⟨F1, ρ, h1, S1, R.ext e1, hi.mo _ _ _ _ _ _ (fun y h2 z => ?_) (fun _ _ z => LX.ext e1 z) z⟩
  intro F2 H2 vy e2 S2 ry
  obtain ⟨kvs, kk, d, ek, ey, ed, z⟩ := z
  obtain ⟨a, vs, rfl, ha, rs⟩ := S2.dkOf (r.ext e2) ek
  rcases rs.val kk with ⟨n1, n2⟩ | ⟨d', v, n1, n2, rv⟩
  · rw [n1] at ed; cases ed
  · rw [n1] at ed; cases ed
    exact ⟨a, v, rfl, .inl ⟨vs, kk, .of ha, keyD_to ry ey, n2.symm⟩, z F2 H2 _ (e1.trans e2) S2 rv⟩
/-- d[k] = v -/
def wDput (wo wi wv : WE) : WS := fun D ρ h => wv ρ h (fun z h1 => wo ρ h1 (fun x h2 => wi ρ h2 (fun y h3 => ∃ a kvs k, x = .ref a ∧ h3 a = some (.dK kvs) ∧ keyD y = some k ∧ kvs.length < sizeLine ∧ D.nx ρ (up h3 a (.dK (putD kvs k z)))) D.ex) D.ex) D.ex
theorem as_dput (c : Cg gz X E k) (ho : AE X E o wo) (hi : AE X E i wi) (hv : AE X E value wv) (hs : swapsWith value (some (.Subscript o i pos')) pos.line X.env = pure false := by rfl) : AS X E (.Assign [.Subscript o i pos'] value pos) (wDput wo wi wv) := by
  refine ⟨PS.imp (ps_dput (hu_of c.room) ho.run hi.run hv.run hs) fun D σ H ⟨F, ρ, h, S, R, q⟩ => ?_, fun D D' ρ h l q => hv.mo _ _ _ _ _ _ (fun z h1 q => ho.mo _ _ _ _ _ _ (fun x h2 q => hi.mo _ _ _ _ _ _ (fun y h3 ⟨a, kvs, k, e1, e2, e3, e4, q⟩ => ⟨a, kvs, k, e1, e2, e3, e4, l.nx _ _ q⟩) l.ex q) l.ex q) l.ex q⟩
  refine ⟨F, ρ, h, S, R, hv.mo _ _ _ _ _ _ (fun z h1 q => ?_) (fun _ _ z => z) q⟩
  intro F1 H1 vz e1 S1 rz
  refine ⟨F1, ρ, h1, S1, R.ext e1, ho.mo _ _ _ _ _ _ (fun x h2 q => ?_) (fun _ _ z => LX.ext e1 z) q⟩
  intro F2 H2 vx e2 S2 rx
  refine ⟨F2, ρ, h2, S2, R.ext (e1.trans e2), hi.mo _ _ _ _ _ _ (fun y h3 q => ?_) (fun _ _ z => LX.ext (e1.trans e2) z) q⟩
  intro F3 H3 vy e3 S3 ry
  obtain ⟨a, kvs, kk, rfl, ea, ey, l, q⟩ := q
  have rx := rx.ext e3
  cases rx
  obtain ⟨_, u, hu, vs, rfl, rs⟩ := S3.ob _ _ ea
  have hy := keyD_to ry ey
  subst hy
  exact ⟨a, _, rfl, .inl ⟨vs, kk, hu, rfl, by rw [← rs.length]; exact l, rfl⟩, q F3 _ σ (e1.trans (e2.trans e3)) (S3.put ea (o := .dK (putD kvs kk z)) ⟨_, rfl, rs.put kk (rz.ext (e2.trans e3))⟩) (R.ext (e1.trans (e2.trans e3)))⟩
/-! ### sorted(d.items()), ints to ints -/
def pairD (e : Int × Int) : D := .tup [.int e.1, .int e.2]
end
end DL
namespace PySem
set_option maxHeartbeats 1000000 in
theorem dl_meets_enum1 {v : Value} {o : Obj} {H : Heap → Prop} (B : Begins v o H) :
    Meets (Builtin.«enumerate.__new__» ⟨[.type "enumerate", v], []⟩) (fun _ R s => H s.heap ∧
      R (.ok (.ret (.ref (s.heap.push o).objs.size))) { s with heap := (s.heap.push o).push { cls := .type "enumerate", data := .fields #[.none, .bool false, .ref s.heap.objs.size, rawInt 0, .none, .none] } }) :=
  .of_wp fun prog w A R s h => by
    obtain ⟨hp, gg, dd, tk, os⟩ := s; obtain ⟨h1, h⟩ := h
    have se := sub_enumerate
    have go : ∀ {A' : Around} {E : Value → Shared → Prop} {Q : Value → Shared → Prop}, Q (.ref hp.objs.size) ⟨hp.push o, gg, dd, tk, os⟩ → wpAny (model prog w) A' (pyIter v) Q E ⟨hp, gg, dd, tk, os⟩ :=
      fun q => B.iter prog w _ _ ⟨hp, gg, dd, tk, os⟩ _ h1 q
    wp_walk using go
    refine wpAny_stack_any fun st => wpAny_pure ?_
    split
    · rename_i c _ _ _ _ _
      cases (c == Value.type "enumerate") <;> (wp_walk using go; exact ⟨_, rfl, h⟩)
    · wp_walk using go
      exact ⟨_, rfl, h⟩
section
variable {prog : Program} {w : World} {A : Around} {E : Value → Shared → Prop} {s : Shared}
theorem dl_call_enum {v : Value} {o : Obj} {H : Heap → Prop} {Q : Value → Shared → Prop} (B : Begins v o H) (h1 : H s.heap)
    (h : ∀ h', IsEnum h' (s.heap.objs.size + 1) s.heap.objs.size 0 .none → h'.get? s.heap.objs.size = some o → (∀ b o, s.heap.get? b = some o → h'.get? b = some o) → Q (.ref (s.heap.objs.size + 1)) { s with heap := h' }) :
    wpAny (model prog w) A (call (.type "enumerate") [v]) Q E s := by
  refine callType_new F.called_enumerate (by decide) (F.typeCall_enumerate_1 _) (F.newCall_enumerate_1 _) (fun obj => F.args_object_init_2 obj _) F.entry_enumerate_new (dl_meets_enum1 B) ⟨h1, ?_⟩
  have z : (s.heap.push o).objs.size = s.heap.objs.size + 1 := Heap.size_push ..
  have he := Heap.get?_push_size (s.heap.push o) (o := { cls := .type "enumerate", data := .fields #[.none, .bool false, .ref s.heap.objs.size, rawInt 0, .none, .none] }) rfl
  show _ ∧ _
  rw [z] at he ⊢
  exact ⟨⟨_, he, rfl⟩, h _ he (Heap.get?_push_of_some _ (Heap.get?_push_size _ B.free)) fun b o x => Heap.get?_push_of_some _ (Heap.get?_push_of_some _ x)⟩
end
end PySem
namespace DL
open PySem PySem.Spec L2 C8
/-! ### enumerate(tuple) -/
def Iet (K : PySem.W.Frag) (a : Addr) : It :=
  ⟨fun i H => ∃ (xs : List V) (x : V), SqT K H a xs ∧ xs[i]? = some x, fun i H v H' => ∃ T x, v = .ref T ∧ H T = none ∧ H' = upd H T (.tup [.int (i : Nat), x]) ∧ ∀ xs, SqT K H a xs → xs[i]? = some x, fun i H => ∃ xs : List V, SqT K H a xs ∧ xs.length = i⟩
theorem turn_et {P : Program} {w : World} {K : PySem.W.Frag} {elts : List Expr} {kk : Nat} {tpos : Pos} (a e it : Addr) :
    Turn P w K (.Tuple elts kk tpos) (Iet K a) [e, it] e (fun i h => (∃ old, IsEnum h e it ((i : Nat) : Int) old) ∧ h.IsTupleIter it a i ∧ e ≠ it ∧ e ≠ a ∧ a ≠ it) where
  mem := by simp
  obj := fun i h st b hb => by
    obtain ⟨⟨old, he⟩, ⟨o, ho, hc, hd⟩, _⟩ := st
    rcases (by simpa using hb : b = e ∨ b = it) with z | z <;> subst z
    · exact ⟨_, he, fun v q => nomatch q⟩
    · exact ⟨o, ho, fun v q => by rw [hd] at q; cases q⟩
  keep := fun i h h' st k => let ⟨⟨old, he⟩, hi, n⟩ := st; ⟨⟨old, k e (by simp) _ he⟩, hi.at fun o q => k it (by simp) o q, n⟩
  item := by
    intro X hP hw hK hc i pins s σ H E I hf st hg
    subst hP hw hK
    obtain ⟨⟨old, he⟩, hit, n1, n2, n3⟩ := st
    obtain ⟨xs, x, hq, hx⟩ := hg
    obtain ⟨its, rv, p, hz⟩ := I.tuple hq
    obtain ⟨u, hu, ru⟩ := rv.get hx
    have le : e < s.heap.objs.size := Heap.lt_size he
    have li : it < s.heap.objs.size := by obtain ⟨_, q, _⟩ := hit; exact Heap.lt_size q
    have pT : s.heap.IsTuple a its.toArray := p
    refine wpAny_pyNext_enum_itemD (D := Draws.tuple (A := X.A.in1) (show X.A.in1.handled = none from I.ok.hd hc) it a n3 its.toArray) he ⟨hit, pT⟩ (by obtain ⟨l, _⟩ := List.getElem?_eq_some_iff.mp hu; simpa using l) n1 (by simp [n1, n2]) fun u' h' tk hu' ho hs' hT hsz hk => ?_
    have eu : u' = u := by
      have : its[i]? = some u' := by simpa using hu'
      rw [hu] at this; exact (Option.some.inj this).symm
    subst eu
    refine ⟨_, rfl, wpAny_letOwnedTupleGo_enum (s := { s with heap := h', toks := tk + 1 }) ho fun h'' he' sb => ?_⟩
    have hT2 := (sb.2 _ (Nat.ne_of_gt le)).trans hT
    have new : ObjOk X.prog X.w (upd H s.heap.objs.size (.tup [.int (i : Nat), x])) h'' s.heap.objs.size (.tup [.int (i : Nat), x]) :=
      ⟨by show 2 ≤ sizeLine; decide, [.int i tk, u'], .cons ⟨_, rfl⟩ (.cons ru .nil), ⟨_, hT2, rfl, _, rfl⟩⟩
    have I1 : Inv X pins σ (upd H s.heap.objs.size (.tup [.int (i : Nat), x])) { s with heap := h'', toks := tk + 1 } :=
      I.turnedNew (ch := [e, it]) (fun b ob hb q => (sb.2 b (fun z => hb (by simp [z]))).trans (hk b ob (fun z => hb (by simp [z])) (fun z => hb (by simp [z])) q)) hf (Nat.le_refl _) new
    refine ⟨.ref s.heap.objs.size, _, I1, rfl, ⟨_, x, rfl, I.hok.fresh (Nat.le_refl _), rfl, fun ys hy => by rw [I.tuple_inj hy hq]; exact hx⟩, ⟨⟨u', ?_⟩, hs'.1.at fun o q => (sb.2 it (Ne.symm n1)).trans q, n1, n2, n3⟩, fun b hb => ?_⟩
    · rw [show ((i + 1 : Nat) : Int) = (i : Int) + 1 by omega]; exact he'
    · have hb' : b < s.heap.objs.size := by
        rcases (by simpa using hb : b = e ∨ b = it) with z | z <;> subst z <;> assumption
      rw [upd_ne (Nat.ne_of_lt hb')]
      exact (hf b hb).1
  done := by
    intro X hP hw hK hc i pins s σ H E I hf st hg
    subst hP hw hK
    obtain ⟨⟨old, he⟩, hit, n1, n2, n3⟩ := st
    obtain ⟨xs, hq, hx⟩ := hg
    obtain ⟨its, rv, p, hz⟩ := I.tuple hq
    obtain ⟨f0, f1, f2, f3, f4, f5⟩ := hf it (by simp)
    have pT : s.heap.IsTuple a its.toArray := p
    have hl : its.toArray.size = i := by have := rv.length; simp; omega
    exact wpAny_pyNext_enum_endD (Draws.tuple (A := X.A.in1) (show X.A.in1.handled = none from I.ok.hd hc) it a n3 its.toArray) he ⟨by rw [hl]; exact hit, pT⟩ fun h' eb => ⟨rfl, I.turned (t' := s.toks) (fun b o hb q => eb b o hb q) f0 f1 f3 f4 f5⟩
  self := fun A i s Q E st h => let ⟨⟨_, he⟩, _⟩ := st; wpAny_pyIter_enum he h
def vEnumT (K : PySem.W.Frag) (ta : TA) : TI := fun σ H R => ta σ H fun vs H1 => ∃ a xs, vs = [.ref a] ∧ SqT K H1 a xs ∧ R (Iet K a) H1
theorem pi_et {X : Cx} {e : Expr} {ta : TA} {p pos tpos : Pos} {elts : List Expr} {kk : Nat} (hg : Gl X "enumerate") (hm : X.mg "enumerate" = none) (ha : PA X [e] ta) (hs : starEach [e] X.env = [(false, eval e X.env)] := by rfl) :
    PI X (.Tuple elts kk tpos) (.Call (.Name "enumerate" p) [e] [] pos) (vEnumT X.K ta) := by
  refine ⟨fun pins s σ H R I h => ?_⟩
  refine PyProof.Rows.Call_ (ld_blt I hg hm PyProof.Rows.boot_enumerate (PyProof.Rows.callWith_type1 (thn (ha.run pos pins s σ H _ I h) fun us s1 ⟨vs, H1, I1, r1, q1⟩ => ?_) hs rfl))
  obtain ⟨a, xs, rfl, hq, q⟩ := q1
  cases r1 with
  | cons r rr =>
    cases rr
    cases r
    obtain ⟨its, rv, pp, hz⟩ := I1.tuple hq
    have pT : s1.heap.IsTuple a its.toArray := pp
    have la : a < s1.heap.objs.size := by obtain ⟨_, x, _⟩ := pT; exact Heap.lt_size x
    refine dl_call_enum (begins_tuple a its.toArray) pT fun h' he hi hk => wpAny_pyIter_enum he ?_
    refine ⟨s1.heap.objs.size + 1, [s1.heap.objs.size + 1, s1.heap.objs.size], _, _, H1, rfl, I1.kept (t' := s1.toks) hk, turn_et a (s1.heap.objs.size + 1) s1.heap.objs.size, ⟨⟨.none, he⟩, ⟨_, hi, rfl, rfl⟩, Nat.succ_ne_self _, Nat.ne_of_gt (Nat.lt_succ_of_lt la), Nat.ne_of_lt la⟩, fun b hb => ?_, q⟩
    have hle : s1.heap.objs.size ≤ b := by
      rcases (by simpa using hb : b = s1.heap.objs.size + 1 ∨ b = s1.heap.objs.size) with z | z
      · rw [z]; exact Nat.le_succ _
      · rw [z]; exact Nat.le_refl _
    exact I1.fpOk hle (I1.hok.fresh hle)
/-! ### their readings as data -/
def numD (xs : List D) : List D := (List.range xs.length).zipWith (fun i x => .tup [.int (i : Nat), x]) xs
theorem numD_len {xs : List D} : (numD xs).length = xs.length := by simp [numD]
theorem numD_get {xs : List D} {i : Nat} {d : D} (h : (numD xs)[i]? = some d) : ∃ x, xs[i]? = some x ∧ d = .tup [.int (i : Nat), x] := by
  unfold numD at h
  rw [List.getElem?_zipWith] at h
  by_cases c : i < xs.length
  · rw [List.getElem?_range c, List.getElem?_eq_getElem c] at h
    cases h
    exact ⟨_, List.getElem?_eq_getElem c, rfl⟩
  · rw [List.getElem?_eq_none (l := List.range _) (by simpa using c)] at h
    simp at h
section
variable {K : PySem.W.Frag} {F : Hp} {a : Addr} {xs : List D} {vs : List V}
theorem ItD.numT (q : SqT K F a vs) (r : Reps K F xs vs) : ItD K F (Iet K a) (numD xs) (fun _ => True) where
  go := fun {i F' h0 H} e S s l => by
    rw [numD_len] at l
    obtain ⟨v, hv, _⟩ := r.get (List.getElem?_eq_getElem l)
    exact ⟨vs, v, sqt_of S.fz (e.sqt q), hv⟩
  stop := fun {i F' h0 H} e S s l =>
    by exact ⟨vs, sqt_of S.fz (e.sqt q), by rw [← r.length, ← numD_len]; exact l⟩
  yld := fun {i F' h0 H x H' d} e S s y hd => by
    obtain ⟨T, v, rfl, hT, rfl, y⟩ := y
    obtain ⟨dx, hx, rfl⟩ := numD_get hd
    obtain ⟨v', hv, rv⟩ := r.get hx
    have ey := y vs (sqt_of S.fz (e.sqt q))
    rw [hv] at ey
    obtain rfl := Option.some.inj ey
    have x1 := ext_upd (o := HO.tup [V.int (i : Nat), v']) (S.free hT).1
    exact ⟨_, x1, S.newF hT _, .tup (.of upd_same) (.cons (.int _) (.cons ((rv.ext e).ext x1) .nil))⟩
def stepD (lo c : Int) (n : Nat) : List D := (List.range n).map fun i => D.int (lo + (i : Nat) * c)
end
section
variable {X : Cx} {E : XK} {tg e : Expr} {wl : WA} {p pos tpos : Pos} {elts : List Expr} {kk : Nat}
/-- enumerate of a tuple, or of a list as it stands -/
def iNum (wl : WA) : WI := fun ρ h R X => wl ρ h (fun ds h1 => match ds with
  | [.tup xs] => R (numD xs) (fun _ => True) h1
  | _ => False) X
theorem ai_num (hm : X.mg "enumerate" = none) (ha : AA X E [e] wl) (hg : Gl X "enumerate" := by rfl) (hs : starEach [e] X.env = [(false, eval e X.env)] := by rfl) : AI X E (.Tuple elts kk tpos) (.Call (.Name "enumerate" p) [e] [] pos) (iNum wl) := by
  refine ⟨PI.imp (pi_et hg hm ha.run hs) fun σ H R ⟨F, ρ, g, S, Rr, q⟩ => ?_, fun ρ h Q Q' X X' hq hx q => ha.mo _ _ _ _ _ _ (fun ds h1 z => ?_) hx q⟩
  · refine ⟨F, ρ, g, S, Rr, ha.mo _ _ _ _ _ _ (fun ds h1 z => ?_) (fun _ _ z => z) q⟩
    intro F1 H1 vs e1 S1 rs
    split at z
    · cases rs with
      | cons r rs =>
        cases rs
        cases r with
        | @tup a xs us hf rs => exact ⟨a, us, rfl, sqt_of S1.fz hf, z F1 H1 _ e1 S1 (ItD.numT hf rs)⟩
    · exact z.elim
  · split at z
    · exact hq _ _ _ z
    · exact z.elim
def iRng3 (wl : WA) : WI := fun ρ h R X => wl ρ h (fun ds h1 => match ds with
  | [.int i, .int j, .int c] => ∃ n, RgC i j c n ∧ R (stepD i c n) (fun _ => True) h1
  | _ => False) X
end
end DL
namespace DL
open PySem PySem.Spec L2 C8
/-! ### x in (a, b): flat data -/
def flatD : D → Bool
  | .non => true
  | .bl _ => true
  | .int _ => true
  | .str _ => true
  | _ => false
def eqFD : D → D → Bool
  | .non, .non => true
  | .bl a, .bl b => a == b
  | .bl a, .int b => (if a then 1 else 0) == b
  | .int a, .bl b => a == (if b then 1 else 0)
  | .int a, .int b => a == b
  | .str a, .str b => a == b
  | _, _ => false
def inD (x : D) (ys : List D) : Bool := ys.any fun y => eqFD y x
def dIn (neg : Bool) (x y : D) (h : AH) (Q : KD) : Prop := ∃ ys, seqOf h y = some ys ∧ flatD x = true ∧ ys.all flatD = true ∧ Q (.bl (if neg then !inD x ys else inD x ys)) h
theorem flatV_of {K : PySem.W.Frag} {F : Hp} {d : D} {v : V} (r : Rep K F d v) (f : flatD d = true) : flatV v = true := by
  cases r <;> first | rfl | cases f
theorem eqV_of {K : PySem.W.Frag} {F : Hp} {d e : D} {v w : V} (r : Rep K F d v) (q : Rep K F e w) (f : flatD d = true) (g : flatD e = true) : eqV v w = eqFD d e := by
  cases r <;> first | (exact absurd f Bool.false_ne_true) | (cases q <;> first | rfl | (exact absurd g Bool.false_ne_true))
theorem inV_of {K : PySem.W.Frag} {F : Hp} {d : D} {v : V} (r : Rep K F d v) (f : flatD d = true) : ∀ {xs : List D} {vs : List V}, Reps K F xs vs → xs.all flatD = true → vs.all flatV = true ∧ inV v vs = inD d xs
  | _, _, .nil, _ => ⟨rfl, rfl⟩
  | _, _, .cons q t, g => by
    rw [List.all_cons, Bool.and_eq_true] at g
    obtain ⟨h1, h2⟩ := inV_of r f t g.2
    refine ⟨by rw [List.all_cons, flatV_of q g.1, h1]; rfl, ?_⟩
    show (List.any _ _) = (List.any _ _)
    rw [List.any_cons, List.any_cons, eqV_of q r g.1 f]
    exact congrArg _ h2
theorem dIn_ok {K : PySem.W.Frag} {neg : Bool} : OpD K (rIn K neg) (dIn neg) where
  to := by
    intro F h H x y vx vy Q S rx ry q
    obtain ⟨ys, e, f, g, q⟩ := q
    obtain ⟨a, vs, rfl, hq, rs⟩ := S.seqOf ry e
    obtain ⟨h1, h2⟩ := inV_of rx f rs g
    exact ⟨a, vs, rfl, hq, flatV_of rx f, h1, by rw [h2]; exact q.at S (.bl _)⟩
  mo := fun hq ⟨ys, e, f, g, q⟩ => ⟨ys, e, f, g, hq _ _ q⟩
section
variable {X : Cx} {E : XK} {k : Nat} {a b e : Expr} {es : List Expr} {wa wb wx : WE} {wl wk : WA} {pos kpos : Pos} {kws : List Keyword} {nm : Option Str}
theorem at_in (ha : AE X E a wa) (hb : AE X E b wb) (hm : behindInMarks .In b = false := by rfl) : AT X E (.Compare a [.In] [b] pos) (wTest (wOp (dIn false) wa wb)) := at_cmp dIn_ok op_in_seq ha hb hm
/-! ### keywords -/
structure AK (X : Cx) (E : XK) (kws : List Keyword) (w : WA) : Prop where
  run : PK X kws (tA X.K E w)
  mo : MoA w
theorem PK.imp {t t' : TA} (p : PK X kws t) (h : ∀ σ H Q, t' σ H Q → t σ H Q) : PK X kws t' := ⟨fun pos pins s σ H Q I q => p.run pos pins s σ H Q I (h _ _ _ q)⟩
theorem ak_nil : AK X E [] wNil := ⟨PK.imp pk_nil fun σ H Q ⟨F, ρ, g, S, R, q⟩ => q F H [] (.refl F) S .nil, fun ρ h Q Q' X X' hq hx q => hq _ _ q⟩
theorem ak_cons (ha : AE X E e wx) (hr : AK X E kws wk) : AK X E (⟨nm, e, kpos⟩ :: kws) (wCons wx wk) := by
  refine ⟨PK.imp (pk_cons ha.run hr.run) fun σ H Q ⟨F, ρ, g, S, R, q⟩ => ?_, fun ρ h Q Q' X X' hq hx q => ha.mo _ _ _ _ _ _ (fun x h1 z => hr.mo _ _ _ _ _ _ (fun xs h2 z => hq _ _ z) hx z) hx q⟩
  refine ⟨F, ρ, g, S, R, ha.mo _ _ _ _ _ _ (fun x h1 z => ?_) (fun _ _ z => z) q⟩
  intro F1 H1 v e1 S1 r
  refine ⟨F1, ρ, h1, S1, R.ext e1, hr.mo _ _ _ _ _ _ (fun xs h2 z => ?_) (fun _ _ z => LX.ext e1 z) z⟩
  intro F2 H2 vs e2 S2 rs
  exact z F2 H2 _ (e1.trans e2) S2 (.cons (r.ext e2) rs)
end
/-- the parameters' values, picked from the positional ones and the keywords' -/
def pickD (ix : List Nat) (ds zs : List D) : List D := ix.map fun i => ((ds ++ zs)[i]?).getD .non
theorem Bnd.pick {K : PySem.W.Frag} {fd : FuncData} {ps : List Str} {n : Nat} {ks : List Str} (ix : List Nat) (hi : ∀ i ∈ ix, i < n + ks.length)
    (h : ∀ us ws : List Value, us.length = n → ws.length = ks.length → bindArgs fd ⟨us, ks.zip ws⟩ = pure (ps.zip (ix.map fun i => ((us ++ ws)[i]?).getD .none))) : Bnd K fd ps n ks (pickD ix) := by
  refine ⟨fun s F ds zs vs ys us ws X l1 l2 r1 r2 r3 r4 => ⟨ix.map fun i => ((vs ++ ys)[i]?).getD .non, ix.map fun i => ((us ++ ws)[i]?).getD .none, ?_, ?_, .of_eq (h us ws (by rw [← r2.length, ← r1.length]; exact l1) (by rw [← r4.length, ← r3.length]; exact l2))⟩⟩
  · have r := r1.append r3
    have l : (ds ++ zs).length = n + ks.length := by simp [l1, l2]
    clear h
    unfold pickD
    induction ix with
    | nil => exact .nil
    | cons i ix ih =>
      have li : i < (ds ++ zs).length := by rw [l]; exact hi i (List.mem_cons_self ..)
      obtain ⟨v, hv, rv⟩ := r.get (List.getElem?_eq_getElem li)
      refine .cons ?_ (ih fun j hj => hi j (List.mem_cons_of_mem _ hj))
      show _
      simp only [hv, List.getElem?_eq_getElem li]
      exact rv
  · have r := r2.append r4
    have l : (vs ++ ys).length = n + ks.length := by simp [← r1.length, ← r3.length, l1, l2]
    clear h
    induction ix with
    | nil => exact .nil
    | cons i ix ih =>
      have li : i < (vs ++ ys).length := by rw [l]; exact hi i (List.mem_cons_self ..)
      obtain ⟨v, hv, rv⟩ := r.get (List.getElem?_eq_getElem li)
      refine .cons ?_ (ih fun j hj => hi j (List.mem_cons_of_mem _ hj))
      show _
      simp only [hv, List.getElem?_eq_getElem li]
      exact rv
end DL
namespace DL
open PySem PySem.Spec L2 C8 PyProof.Rows
/-! ### the law is called -/
section
variable {P : Program} {w : World} {K : PySem.W.Frag} {mg bm : Str → Option Value} {k : Nat} {fa q : Addr} {fd : FuncData} {x : Str} {S : FSpec} {t : Shared} {us : List Value} {js : List Int}
/-- what is tracked at the start: the script at most -/
structure Beg (K : PySem.W.Frag) (P : Program) (w : World) (H : Hp) (hp : Heap) (q : Addr) (js : List Int) : Prop where
  sq : SqL K H q (js.map V.int)
  ok : HOk P w H hp
  at_ : ∀ b, H b ≠ none → b = q
  out : H q ≠ none → K.lookup q = none
  fz : ∀ b, H b = none ∨ ∃ ob ys, H b = some (.frz ob (.lst ys))
theorem beg_of (KX : K.In t.heap) (hq : t.heap.get? q = some { cls := .type "list", data := .seq us.toArray }) (ia : IntsAre us js) (lj : js.length ≤ sizeLine) : ∃ H, Beg K P w H t.heap q js := by
  have rv := vals_ints ia
  have el := ia.length
  cases kq : K.lookup q with
  | some ob =>
    have e := (KX q ob kq).symm.trans hq
    obtain rfl := Option.some.inj e
    refine ⟨fun _ => none, .inr ⟨_, _, _, kq, rfl, rfl, rfl, ?_, by simpa using rv⟩, fun b u z => ?_, fun b z => absurd rfl z, fun z => absurd rfl z, fun b => .inl rfl⟩
    · rw [List.size_toArray, el]; exact lj
    · exact absurd (show (none : Option HO) = some u from z) (by simp)
  | none =>
    have tr : ∀ b : Addr, (if b = q then some (HO.frz { cls := .type "list", data := .seq us.toArray } (.lst (js.map V.int))) else none : Option HO) ≠ none → b = q := fun b z => by
      by_cases c : b = q
      · exact c
      · exact absurd (if_neg c) z
    refine ⟨fun b => if b = q then some (.frz { cls := .type "list", data := .seq us.toArray } (.lst (js.map V.int))) else none, .inl (.inr ⟨_, if_pos rfl⟩), fun b u z => ?_, tr, fun _ => kq, fun b => ?_⟩
    · have c : b = q := tr b (by intro n; exact absurd (n.symm.trans z) (by simp))
      subst c
      obtain rfl := Option.some.inj ((if_pos rfl).symm.trans z)
      exact ⟨hq, by rw [List.length_map]; exact lj, us, _, rv, hq⟩
    · by_cases c : b = q
      · exact .inr ⟨_, _, if_pos c⟩
      · exact .inl (if_neg c)
end
end DL
namespace Hx
open PySem PySem.Spec PyProof.Rows L2 DL
abbrev Fr := PySem.W.Frag
/-! ### what stands where, by names -/
/-- the object that a slot holds -/
def rf (v : Option (Option Value)) : Addr := match v with
  | some (some (.ref a)) => a
  | _ => 0
def tk (v : Option (Option Value)) : Tok := match v with
  | some (some (.int _ t)) => t
  | some (some (.str _ t)) => t
  | _ => 0
/-- the module's name, a class's name -/
def gl (K : Fr) (x : Str) : Addr := rf (PySem.W.nsIn K mainGlobals x)
def me (K : Fr) (C : Addr) (m : Str) : Addr := rf (PySem.W.findIn K (.ref C) m)
def rh (K : Fr) (p : Addr) (T : String) : Addr := match PySem.W.recIn K p T with
  | some (.ref f :: _) => f
  | _ => 0
def rt (K : Fr) (p : Addr) (T : String) : List Value := match PySem.W.recIn K p T with
  | some (_ :: r) => r
  | _ => []
/-! a function's parts -/
def fd? (K : Fr) (a : Addr) : Option FuncData := match K.lookup a with
  | some ⟨_, _, .func fd, _⟩ => some fd
  | _ => none
def oc (K : Fr) (a : Addr) : Value := match K.lookup a with
  | some o => o.cls
  | none => .none
def od (K : Fr) (a : Addr) : Option Addr := match K.lookup a with
  | some o => o.dict
  | none => none
def sl (K : Fr) (a : Addr) : Array (Option Value) := match K.lookup a with
  | some o => o.slots
  | none => #[]
def fv (p : FuncData → Value) (K : Fr) (a : Addr) : Value := match fd? K a with
  | some fd => p fd
  | none => .none
def kv (K : Fr) (a : Addr) : Value := fv (·.kwdefaults) K a
abbrev FnU := Option (Str × Str × Arguments × FuncBody × Scope × Addr × List (Str × Addr) × Value × Addr)
def fnU (df : Bool) (K : Fr) (a : Addr) : FnU := match fd? K a with
  | some fd => some (fd.name, fd.qualname, fd.params, fd.body, fd.scope, fd.globals, fd.closure, if df then .none else fd.defaults, fd.builtins)
  | none => none
/-- one def: where it stands, its name, qualified name, parameters, body, scope -/
structure FnX where
  at_ : Fr → Addr
  name : Str
  qual : Str
  st : Stmt
  df : Bool
def FnX.val (d : FnX) : FnU := some (d.name, d.qual, defArgs d.st, .stmts (defBody d.st), defScope d.st, mainGlobals, [], .none, builtinsNs)
theorem fn_at {K : Fr} {a : Addr} {x q : Str} {st : Stmt} (e : fnU false K a = some (x, q, defArgs st, .stmts (defBody st), defScope st, mainGlobals, [], .none, builtinsNs)) :
    K.lookup a = some ⟨oc K a, od K a, .func (PySem.W.fnOf x q (defArgs st) (defBody st) (defScope st) .none (kv K a) (fv (·.doc) K a) (fv (·.pyModule) K a) (match fd? K a with | some fd => fd.annotations | none => none) (fv (·.code) K a) (fv (·.closureTuple) K a)), sl K a⟩ := by
  unfold oc od sl kv fv
  cases l : K.lookup a with
  | none => unfold fnU fd? at e; rw [l] at e; cases e
  | some o =>
    obtain ⟨c, d, dt, sls⟩ := o
    cases dt with
    | func fd =>
      have ef : fd? K a = some fd := by unfold fd?; rw [l]
      unfold fnU at e
      rw [ef] at e ⊢
      obtain ⟨n1, n2, n3, n4, n5, n6, n7, n8, n9, n10, n11, n12, n13, n14, n15⟩ := fd
      simp only [Option.some.injEq, Prod.mk.injEq] at e
      obtain ⟨h1, h2, h3, h4, h5, h6, h7, h8, h9⟩ := e
      replace h8 : _ = Value.none := h8
      simp only [Bool.false_eq_true, if_false] at h8
      subst h1 h2 h3 h4 h5 h6 h7 h8 h9
      rfl
    | _ => unfold fnU fd? at e; rw [l] at e; cases e
def an (K : Fr) (a : Addr) : Option Addr := match fd? K a with
  | some fd => fd.annotations
  | none => none
/-! ### the Hook -/
abbrev AlX : Type := Bool × List FnU
def obX (ts : List (List (Fr → Bool))) (fn : List FnX) (K : Fr) : AlX := (ts.all fun l => l.all fun t => t K, fn.map fun d => fnU d.df K (d.at_ K))
def vaX (fn : List FnX) : AlX := (true, fn.map FnX.val)
def SaX (ts : List (List (Fr → Bool))) (fn : List FnX) (K : Fr) : Prop := obX ts fn K = vaX fn
/-- all objects, the module's names first, the newest next -/
def allA (no : List Addr) (g : Addr → Option Obj) : Nat → List Addr
  | 0 => []
  | n + 1 => match g n with
    | some ⟨.none, _, .fields _, _⟩ => allA no g n
    | some _ => n :: allA no g n
    | none => allA no g n
def frX (N : Nat) (no : List Addr) (g : Addr → Option Obj) : Fr := He.frG g (mainGlobals :: allA no g N)
def hookX (N : Nat) (no : List Addr) (ts : List (List (Fr → Bool))) (fn : List FnX) : PySem.W.Hook where
  α := AlX
  obs := fun s => obX ts fn (frX N no s.heap.get?)
  val := fun _ => vaX fn
  says := fun _ h => ∃ K : Fr, K.In h ∧ SaX ts fn K
  of := fun _ _ e => ⟨_, He.frG_in, e⟩
  keeps := fun _ _ _ ⟨K, hK, c⟩ k => ⟨K, PySem.W.Frag.In.keeps hK k, c⟩
def obT (N : Nat) (no : List Addr) (ts : List (List (Fr → Bool))) (fn : List FnX) (s : PySem.W.SharedT) : AlX := obX ts fn (frX N no (HandSHeadRun.getT s))
theorem obT_eq {N : Nat} {no : List Addr} {ts : List (List (Fr → Bool))} {fn : List FnX} (s : PySem.W.SharedT) : obT N no ts fn s = (hookX N no ts fn).obs s.abs := by
  have e : HandSHeadRun.getT s = s.abs.heap.get? := funext (HandSHeadRun.getT_eq s)
  unfold obT
  rw [e] <;> rfl
section
variable {ts : List (List (Fr → Bool))} {fn : List FnX} {K : Fr}
theorem SaX.t (c : SaX ts fn K) (i j : Nat) {l : List (Fr → Bool)} {f : Fr → Bool} (h : ts[i]? = some l) (h2 : l[j]? = some f) : f K = true := by
  have c1 : (ts.all fun l => l.all fun t => t K) = true := congrArg (fun z : AlX => z.1) c
  exact List.all_eq_true.mp (List.all_eq_true.mp c1 l (List.mem_of_getElem? h)) f (List.mem_of_getElem? h2)
theorem SaX.f (c : SaX ts fn K) (i : Nat) {d : FnX} (h : fn[i]? = some d) (hd : d.df = false := by rfl) :
    K.lookup (d.at_ K) = some ⟨oc K (d.at_ K), od K (d.at_ K), .func (PySem.W.fnOf d.name d.qual (defArgs d.st) (defBody d.st) (defScope d.st) .none (kv K (d.at_ K)) (fv (·.doc) K (d.at_ K)) (fv (·.pyModule) K (d.at_ K)) (an K (d.at_ K)) (fv (·.code) K (d.at_ K)) (fv (·.closureTuple) K (d.at_ K))), sl K (d.at_ K)⟩ := by
  have e : fn.map (fun d => fnU d.df K (d.at_ K)) = fn.map FnX.val := congrArg (fun z : AlX => z.2) c
  have e2 : (fn.map fun d => fnU d.df K (d.at_ K))[i]? = (fn.map FnX.val)[i]? := by rw [e]
  rw [List.getElem?_map, List.getElem?_map, h] at e2
  have e3 := Option.some.inj e2
  dsimp only at e3
  rw [hd] at e3
  exact fn_at e3
end
def cap (K : Fr) (a : Addr) : Nat := match K.lookup a with
  | some ⟨_, _, .seq _ n, _⟩ => n
  | _ => 0
/-! classes of errors -/
def cdOf (K : Fr) (a : Addr) : ClassData := match K.lookup a with
  | some ⟨_, _, .cls cd, _⟩ => cd
  | _ => default
def sk (K : Fr) (a : Addr) (i : Nat) : Option Value := ((sl K a).toList[i]?).getD none
def s4 (l : List (Option Value)) (n : String) : Bool := match l with
  | [_, _, _, _, some (.builtin m), _] => decide (m = n)
  | _ => false
theorem s4_at {l : List (Option Value)} {n : String} (h : s4 l n = true) : ∃ a b c d e, l = [a, b, c, d, some (.builtin n), e] := by
  unfold s4 at h
  split at h
  · obtain rfl := of_decide_eq_true h
    exact ⟨_, _, _, _, _, rfl⟩
  · cases h
def xcOk (K : Fr) (C : Addr) (n : String) : Bool := match K.lookup C with
  | some ⟨.type t, _, .cls cd, ss⟩ => decide (t = "type") && ((match cd.mro with
    | .ref c :: _ => decide (c = C)
    | _ => false) && (cd.hasDict && (!cd.hasDel && s4 ss.toList n)))
  | _ => false
theorem xc_at {K : Fr} {C : Addr} {n : String} (h : xcOk K C n = true) : K.lookup C = some (excClassObj (cdOf K C).name (cdOf K C).qualname C (cdOf K C).ns (cdOf K C).bases (cdOf K C).mro.tail true (cdOf K C).slotNames (cdOf K C).subclasses (cdOf K C).abstract (cdOf K C).collection (od K C) (sk K C 0) (sk K C 1) (sk K C 2) (sk K C 3) (sk K C 5) n) := by
  unfold xcOk at h
  unfold cdOf sk od sl
  cases l : K.lookup C with
  | none => rw [l] at h; cases h
  | some o =>
    rw [l] at h
    obtain ⟨c, d, dt, ss⟩ := o
    cases c with
    | type t =>
      cases dt with
      | cls cd =>
        obtain ⟨n1, n2, n3, n4, n5, n6, n7, n8, n9, n10, n11⟩ := cd
        simp only [Bool.and_eq_true, decide_eq_true_eq] at h
        obtain ⟨rfl, h2, h3, h4, h5⟩ := h
        cases n3 with
        | nil => cases h2
        | cons v r =>
          cases v with
          | ref c =>
            obtain rfl := of_decide_eq_true h2
            have h3 : n6 = true := h3
            have h4 : (!n11) = true := h4
            obtain ⟨ss⟩ := ss
            obtain ⟨a, b, c2, d2, e, h6⟩ := s4_at h5
            have h6 : ss = _ := h6
            subst h6
            cases n11 with
            | true => cases h4
            | false => subst h3; rfl
          | _ => cases h2
      | _ => cases h
    | _ => cases h
/-! code objects with tables -/
def cA (K : Fr) (a : Addr) : Addr := match fv (·.code) K a with
  | .ref c => c
  | _ => 0
theorem fn_c {K : Fr} {a d : Addr} {x q : Str} {st : Stmt} {k p1 p2 p5 : Value} {p3 : Option Addr} {c : Value} {o : Option Addr} {z : Array (Option Value)} (h : K.lookup a = some ⟨c, o, .func (PySem.W.fnOf x q (defArgs st) (defBody st) (defScope st) .none k p1 p2 p3 (fv (·.code) K a) p5), z⟩) (e : fv (·.code) K a = .ref d) :
    K.lookup a = some ⟨c, o, .func (PySem.W.fnOf x q (defArgs st) (defBody st) (defScope st) .none k p1 p2 p3 (.ref d) p5), z⟩ := by
  rw [← e]; exact h
def fl (K : Fr) (a : Addr) : Array Value := match K.lookup a with
  | some ⟨_, _, .fields vs, _⟩ => vs
  | _ => #[]
def flOk (K : Fr) (a : Addr) : Bool := match K.lookup a with
  | some ⟨_, _, .fields _, _⟩ => true
  | _ => false
theorem fl_at {K : Fr} {a : Addr} (h : flOk K a = true) : K.lookup a = some ⟨oc K a, od K a, .fields (fl K a), sl K a⟩ := by
  unfold flOk at h
  unfold oc od fl sl
  cases l : K.lookup a with
  | none => rw [l] at h; cases h
  | some o =>
    rw [l] at h
    obtain ⟨c, d, dt, ss⟩ := o
    cases dt with
    | fields vs => rfl
    | _ => cases h
def r11 (K : Fr) (a : Addr) : Addr := match ((fl K a)[11]? : Option Value) with
  | some (Value.ref t) => t
  | _ => 0
theorem no_at {K : Fr} {a : Addr} (h : (K.lookup a).isNone = true) : K.lookup a = none := Option.isNone_iff_eq_none.mp h
end Hx
/-! exceptions of own classes over any built-in one: made, with stored fields, raised -/
namespace DL
open PySem PySem.Spec L2 C8 PyProof.Rows
/-- what the written part says of an exception class -/
structure XCls (K : PySem.W.Frag) (C : Addr) : Prop where
  ex : ∃ (B newId initId : String) (tl bm bs sub : List Value) (nm q : Str) (N : Addr) (sn : List Str) (ab : Bool) (col : Option Bool) (dd : Option Addr) (k0 k1 k2 k3 k5 : Option Value),
    ExcBaseFacts B newId initId tl ∧ K.lookup C = some (excClassObj nm q C N bs bm true sn sub ab col dd k0 k1 k2 k3 k5 newId) ∧ PySem.W.excTail tl bm = true ∧ (∀ self, refuseLoop self "__setattr__" tl = pure ()) ∧ tl.contains (.type "object") = true
  sa : PySem.W.findIn K (.ref C) "__setattr__" = some (some (.builtin "object.__setattr__"))
  sub : PySem.W.subIn K (.ref C) (.type "BaseException") = some true
  ty : PySem.W.typeIn K (.ref C) = some (.type "type")
  kp : PySem.W.keepIn K (.ref C) = true
/-- its class data -/
theorem XCls.cd {K : PySem.W.Frag} {C : Addr} (T : XCls K C) : ∃ c, PySem.W.clsIn K C = some c ∧ c.hasDict = true ∧ c.mro.isEmpty = false ∧ c.mro.contains (.type "object") = true ∧ ∀ self, refuseLoop self "__setattr__" c.mro = pure () := by
  obtain ⟨B, ni, ii, tl, bm, bs, sb, nm, q, N, sn, ab, col, dd, k0, k1, k2, k3, k5, F, hl, ht, hr, ho⟩ := T.ex
  have t2 : PySem.W.excTail tl (.ref C :: bm) = true := ht
  exact ⟨_, by unfold PySem.W.clsIn; rw [hl] <;> rfl, rfl, rfl, (PySem.W.excTail_contains "object" _ t2).trans ho, fun self => PySem.W.excTail_pass self (hr self) _ t2⟩
section
open Builtin Builtin.ObjectAttr PySem.W PySem.Calls
variable {prog : Program} {w : World} {A : Around} {R : Result → Shared → Prop} {hp : Heap} {g : Array GenState} {d : Drawn} {t : Nat} {os : OsState} {K : PySem.W.Frag} {name : Str} {tk : Tok} {v : Value} {x C : Addr} {fv : Array Value}
/-- the walk of object.__setattr__ to the own dict -/
theorem xset_walk {od : Option Obj} {ox : Obj} (X : K.In hp) (T : XCls K C) (I : PySem.W.InstAt hp x ox C od) (ha : PySem.W.findIn K (.ref C) name = some none)
    (hq : wpAny (model prog w) A.in1 (storeInOwnDict (.ref x) (.ref C) (.str name tk) name v false) (fun fin s' => match fin with
      | Fin.done f => R (Except.ok f) s'
      | Fin.again c' => c'.quiet = true ∧ codeAny (model prog w) A c' R s') (fun e s' => R (.error e) s') ⟨hp, g, d, t, os⟩) :
    codeAny (model prog w) A (.call (.builtin "object.__setattr__") ⟨[.ref x, .str name tk, v], []⟩) R ⟨hp, g, d, t, os⟩ := by
  obtain ⟨cd, hcd, hh, he, hob, hr⟩ := T.cd
  have SF := F.store_object
  have isObj : PySem.W.Looks (model prog w) hp (isInstance (.ref x) (.type "object")) true := I.type.andThen (PySem.W.looks_mroIn X (by unfold PySem.W.mroIn; rw [hcd, Option.bind_some, if_neg (by rw [he]; decide), hob]))
  refine codeAny_call_builtin SF.slot.plain SF.entry (@PySem.W.check_slot (model prog w) _ _ ⟨hp, g, d, t, os⟩ "object.__setattr__" "object" "__setattr__" (.ref x) [.str name tk, v] [] _ SF.kind SF.split isObj (SF.args (.ref x) (.str name tk) v) ?_)
  have Lm : PySem.W.Looks (model prog w) hp (mroOf (.ref C)) cd.mro := (PySem.W.looks_clsIn X hcd).andThen .now
  have Ln : PySem.W.Looks (model prog w) hp (storeTaker? none) none := .now
  rw [PySem.W.osa_eq, refuse_eq]
  refine wpAny_bind (wpAny_bind (I.type.at (wpAny_bind (Lm.at ?_))))
  rw [hr (.ref x)]
  exact wpAny_pure (wpAny_bind (I.type.at (wpAny_bind ((PySem.W.looks_findIn X ha).at (wpAny_bind (Ln.at hq))))))
/-- the first field -/
theorem xset_new (X : K.In hp) (T : XCls K C) (hx : hp.get? x = some { cls := .ref C, data := .fields fv }) (ha : PySem.W.findIn K (.ref C) name = some none)
    (hq : ∀ h' tk' dx, (∀ b o, b ≠ x → hp.get? b = some o → h'.get? b = some o) → hp.objs.size ≤ dx → dx ≠ x → h'.get? x = some { cls := .ref C, dict := some dx, data := .fields fv } →
      h'.Ns1 dx (fun y => if y = name then some v else none) → R (.ok (.ret .none)) ⟨h', g, d, tk', os⟩) :
    codeAny (model prog w) A (.call (.builtin "object.__setattr__") ⟨[.ref x, .str name tk, v], []⟩) R ⟨hp, g, d, t, os⟩ := by
  refine xset_walk X T (ox := { cls := .ref C, data := .fields fv }) (od := none) ⟨hx, rfl, rfl, trivial⟩ ha ?_
  obtain ⟨cd, hcd, hh, _⟩ := T.cd
  have far : x ≠ hp.objs.size := Nat.ne_of_lt (Heap.lt_size hx)
  have Lc : PySem.W.Looks (model prog w) hp (classData C) cd := PySem.W.looks_clsIn X hcd
  obtain ⟨y1, y2, y3, y4, y5, y6, y7, y8, y9, y10, y11⟩ := cd
  dsimp only at hh
  subst hh
  unfold storeInOwnDict ownDictForStores
  repeat (first | with_reducible refine PySem.HandSPX.store_in_new ?_ ?_ | with_reducible refine wpAny_loadPart_at hx ?_ | with_reducible refine Lc.at ?_ | wp_step)
  · exact ⟨_, #[], _, (Heap.get?_update_ne _ _ _ _ far.symm).trans (Heap.get?_push_at rfl rfl), rfl, fun e he => absurd he (by simp), fun _ => rfl⟩
  · intro h2 tk2 hn2 hs2
    have hx2 : (hp.push { cls := .type "dict", data := .dict #[] }).get? x = some { cls := .ref C, data := .fields fv } := Heap.get?_push_of_some _ hx
    refine hq h2 tk2 hp.objs.size (fun b o hb ho => ?_) (Nat.le_refl _) far.symm ?_ hn2
    · exact (hs2.2 b (Nat.ne_of_lt (Heap.lt_size ho))).trans ((Heap.get?_update_ne _ _ _ _ hb).trans (Heap.get?_push_of_some _ ho))
    · exact (hs2.2 x far).trans (Heap.get?_update_self _ hx2 rfl)
/-- a further field -/
theorem xset_old {dx : Addr} {m0 : Str → Option Value} {nl : List Str} (X : K.In hp) (T : XCls K C) (hx : hp.get? x = some { cls := .ref C, dict := some dx, data := .fields fv }) (hns : hp.Ns1 dx m0) (hw : Within m0 nl) (hz : nl.length ≤ 1000) (ha : PySem.W.findIn K (.ref C) name = some none)
    (hq : ∀ h' tk', (∀ b o, b ≠ dx → hp.get? b = some o → h'.get? b = some o) → h'.Ns1 dx (fun y => if y = name then some v else m0 y) → R (.ok (.ret .none)) ⟨h', g, d, tk', os⟩) :
    codeAny (model prog w) A (.call (.builtin "object.__setattr__") ⟨[.ref x, .str name tk, v], []⟩) R ⟨hp, g, d, t, os⟩ := by
  obtain ⟨oD, eD, pD, hoD, hdD, _⟩ := hns.count hw
  refine xset_walk X T (ox := { cls := .ref C, dict := some dx, data := .fields fv }) (od := some oD) ⟨hx, rfl, rfl, hoD⟩ ha ?_
  obtain ⟨cd, hcd, hh, _⟩ := T.cd
  have Lc : PySem.W.Looks (model prog w) hp (classData C) cd := PySem.W.looks_clsIn X hcd
  obtain ⟨y1, y2, y3, y4, y5, y6, y7, y8, y9, y10, y11⟩ := cd
  dsimp only at hh
  subst hh
  unfold storeInOwnDict ownDictForStores
  repeat (first | with_reducible refine PySem.OEX.store_in_old hns hw hz ?_ | with_reducible refine wpAny_loadPart_at hx ?_ | with_reducible refine Lc.at ?_ | wp_step)
  intro h2 tk2 hn2 hs2
  exact hq h2 tk2 (fun b o hb ho => (hs2.2 b hb).trans ho) hn2
end
section
variable {X : Cx} {pins : List (Addr × Obj)} {σ : L2.St} {H : Hp} {s : Shared} {a C dx : Addr} {f : Str} {y : V} {u : Value} {fs : List (Str × V)} {Q : Unit → Shared → Prop} {E : Value → Shared → Prop} {A : Around}
/-- self.f = y, the first one -/
theorem xst_new (T : XCls X.K C) (I : Inv X pins σ H s) (e : H a = some (exo a C none)) (hno : PySem.W.findIn X.K (.ref C) f = some none) (ry : RelV y u)
    (h : ∀ dx s', H dx = none → dx ≠ a → Inv X pins σ (upd (upd H dx (exd dx [(f, y)])) a (exo a C (some dx))) s' → Q () s') : wpAny (model X.prog X.w) A (setAttr (.ref a) f u) Q E s := by
  obtain ⟨t1, ho⟩ := exo_at I.hok e
  obtain ⟨hp, g, d, t, os⟩ := s
  refine PySem.W.set_plain I.kIn (ox := { cls := .ref C, dict := none, data := .fields #[.ref t1, .none, .none, .none, .bool false, .none] }) (od := none) ⟨ho, rfl, rfl, trivial⟩ T.sa (xset_new I.kIn T ho hno fun h2 tk2 dx kp dn dne hx hn => ?_)
  have none_dx : H dx = none := I.hok.fresh dn
  have old_ne : ∀ {b : Addr} {o : Obj}, hp.get? b = some o → b ≠ dx := fun {b o} q => Nat.ne_of_lt (Nat.lt_of_lt_of_le (Heap.lt_size q) dn)
  have ne_a : ∀ {b : Addr}, H b = none → b ≠ a := fun {b} n z => by rw [z, e] at n; cases n
  have away : ∀ {b : Addr} {o : HO}, H b = some o → (exo a C none ≠ o) → upd (upd H dx (exd dx [(f, y)])) a (exo a C (some dx)) b = H b := fun {b o} q n => by
    rw [upd_ne (L2.at_ne e q n), upd_ne (ne_of_none q none_dx)]
  have UN : Un X.fs [] H (upd (upd H dx (exd dx [(f, y)])) a (exo a C (some dx))) hp h2 :=
    ⟨fun b o q n _ _ => kp b o (ne_a n) q, fun b o q n _ _ => ⟨o.slots, kp b o (ne_a n) q⟩, fun b o q n _ => by rw [upd_ne (ne_a n), upd_ne (old_ne q)]; exact n,
      fun b o q _ => (Classical.em (b = a)).elim (fun hb => ⟨_, hb.symm ▸ hx⟩) fun hb => ⟨o, kp b o hb q⟩, fun b xs q => (away q exo_tup).trans q, fun b o v q => (away q exo_frz).trans q, fun b ps q => ⟨#[], by rw [away q exo_tbl, q]; simp⟩⟩
  refine h dx _ none_dx dne (I.un (t' := tk2) UN fun b o q => ?_)
  by_cases hb : b = a
  · subst hb
    obtain rfl := Option.some.inj (upd_same.symm.trans q)
    exact exo_ok hx
  · rw [upd_ne hb] at q
    by_cases hd : b = dx
    · subst hd
      obtain rfl := Option.some.inj (upd_same.symm.trans q)
      exact exd_ok hn (relO_put (fs := []) ry fun g => True.intro)
    · rw [upd_ne hd] at q
      exact (I.hok b o q).stay (fun c v hc z => kp c v (hc.elim (fun r => by rw [r]; exact hb) (fun r => L2.at_ne e r exo_own)) z) (fun c hc => (away hc exo_own).trans hc) fun c xs hc => (away hc exo_tup).trans hc
/-- self.f = y, a further one -/
theorem xst_old (T : XCls X.K C) (I : Inv X pins σ H s) (e : H a = some (exo a C (some dx))) (ed : H dx = some (exd dx fs)) (hl : fs.length ≤ 900) (hno : PySem.W.findIn X.K (.ref C) f = some none) (ry : RelV y u)
    (h : ∀ s', Inv X pins σ (upd H dx (exd dx ((f, y) :: fs))) s' → Q () s') : wpAny (model X.prog X.w) A (setAttr (.ref a) f u) Q E s := by
  obtain ⟨t1, ho⟩ := exo_at I.hok e
  obtain ⟨mA, hns, rel⟩ := exd_at I.hok ed
  have wi := within_of rel
  obtain ⟨hp, g, d, t, os⟩ := s
  obtain ⟨oD, e1, e2, hoD, e3, e4⟩ := hns.count wi
  refine PySem.W.set_plain I.kIn (ox := { cls := .ref C, dict := some dx, data := .fields #[.ref t1, .none, .none, .none, .bool false, .none] }) (od := some oD) ⟨ho, rfl, rfl, hoD⟩ T.sa (xset_old I.kIn T ho hns wi (by rw [List.length_map]; omega) hno fun h2 tk2 kp hn => ?_)
  obtain ⟨o2, w1, w2, w3, w4⟩ := id hn
  exact h _ (I.write (t' := tk2) (x := dx) (e := dx) (o := exd dx ((f, y) :: fs)) (by rw [ed]; trivial) (.inl rfl) kp ⟨o2, w3⟩ (exd_ok hn (relO_put ry rel)))
end
/-- self.f = e, self an exception under way -/
def tXst (K : PySem.W.Frag) (f : Str) (to te : TE) : TS := fun D σ H => te σ H fun y H1 => to σ H1 fun x H2 => ∃ a C : Addr, x = .ref a ∧ XCls K C ∧ PySem.W.findIn K (.ref C) f = some none ∧
  ((H2 a = some (exo a C none) ∧ ∀ dx, H2 dx = none → dx ≠ a → D.nx σ (upd (upd H2 dx (exd dx [(f, y)])) a (exo a C (some dx)))) ∨
    ∃ (dx : Addr) (fs : List (Str × V)), H2 a = some (exo a C (some dx)) ∧ H2 dx = some (exd dx fs) ∧ fs.length ≤ 900 ∧ D.nx σ (upd H2 dx (exd dx ((f, y) :: fs))))
theorem ps_xst {X : Cx} {o e : Expr} {to te : TE} {f : Str} {p' pos : Pos} (ho : PE X o to) (he : PE X e te) (hs : swapsWith e (some (.Attribute o f p')) pos.line X.env = pure false := by rfl) : PS X (.Assign [.Attribute o f p'] e pos) (tXst X.K f to te) := by
  refine ⟨fun pins s σ H D I h => plainObj_wpAny_Assign_Attribute (thn (he.run pins s σ H _ I h) fun v s1 ⟨y, H1, I1, r1, q1⟩ => thn (ho.run pins s1 σ H1 _ I1 q1) fun u s2 ⟨x, H2, I2, r2, a, C, ex, T, hno, q⟩ => ?_) hs⟩
  subst ex
  obtain rfl : u = Value.ref a := r2
  rcases q with ⟨ea, q⟩ | ⟨dx, fs, ea, ed, hl, q⟩
  · exact xst_new T I2 ea hno r1 fun dx s' n ne J => ⟨σ, _, J, q dx n ne⟩
  · exact xst_old T I2 ea ed hl hno r1 fun s' J => ⟨σ, _, J, q⟩
end DL
/-! exceptions of own classes: inits that store their parameters; raise -/
namespace DL
open PySem PySem.Spec L2 C8 PyProof.Rows
/-- an init that stores its parameters -/
def spX (K : PySem.W.Frag) (ns : List Str) : Sp := fun vs H Q _ => ∃ (a C : Addr) (ys : List V), vs = .ref a :: ys ∧ ys.length = ns.length ∧ XCls K C ∧ (∀ f ∈ ns, PySem.W.findIn K (.ref C) f = some none) ∧ H a = some (exo a C none) ∧
  ∀ dx, H dx = none → dx ≠ a → Q .non (upd (upd H dx (exd dx (ns.zip ys).reverse)) a (exo a C (some dx)))
theorem spX_len {K : PySem.W.Frag} {ns : List Str} : ∀ vs H Q E, spX K ns vs H Q E → vs.length = ("self" :: ns : List Str).length := by
  rintro vs H Q E ⟨a, C, ys, rfl, l, _⟩
  simp [l]
section
variable {P : Program} {w : World} {K : PySem.W.Frag} {mg : Str → Option Value} {base : Heap} {st : Stmt} {f : Addr} {fd : FuncData} {qual p1 p2 : Str} {k : Nat} {q1 q2 q3 q4 q5 q6 q7 q8 : Pos}
theorem xinit1 (F : L2.Fun K "__init__" qual st f fd) (S : FnScope ["self", p1] ["self", p1] (defScope st)) (hv : Vis (defScope st) "self") (hv1 : Vis (defScope st) p1) (hb : defBody st = [.Assign [.Attribute (.Name "self" q1) p1 q2] (.Name p1 q3) q4])
    (hd : (p1 == ("__debug__" : Str)) = false := by decide) (hc : (p1 == ("__classdict__" : Str)) = false := by decide) : FnOk P w K mg base L2.CX0 (k + 1) f fd ["self", p1] (spX K [p1]) := by
  refine F.ok S spX_len fun cdv A outer s H vs Q E hr hs => ?_
  rw [hb]
  obtain ⟨a, C, ys, rfl, l, T, hf, ea, h⟩ := hs
  match ys, l with
  | [y], _ =>
    refine ⟨_, pss_one (ps_xst (pe_var (i := 0) rfl hv) (pe_var (i := 1) rfl hv1 hd hc)), ?_⟩
    exact ⟨y, rfl, .ref a, rfl, a, C, rfl, T, hf _ (by simp), .inl ⟨ea, fun dx n ne => h dx n ne⟩⟩
end
section
variable {X : Cx} {k : Nat} {f C : Addr} {fd : FuncData} {ps : List Str} {sp : Sp} {x : Str} {p pos : Pos} {e : Expr} {es : List Expr} {ta : TA} {bmB : List Value} {B newId initId : String}
/-- X(e, ..), its init walked -/
theorem pmk_x (T : XCls X.K C) (iC : PySem.W.findIn X.K (.ref C) "__init__" = some (some (.ref f))) (tI : PySem.W.typeIn X.K (.ref f) = some (.type "function")) (G : FnOk X.prog X.w X.K X.mg X.base L2.CX0 k f fd ps sp) (hr : Room (k + 1) X.A) (hb : Binds X.K fd ps []) (hg : Gl X x) (hm : X.mg x = some (.ref C)) (ha : PA X (e :: es) ta)
    (hdb : (x == ("__debug__" : Str)) = false := by decide) (he : starEach (e :: es) X.env = (false, eval e X.env) :: starEach es X.env := by rfl) (hpl : (backTo pos (starEach es X.env)).any (·.1) = false := by rfl) :
    PMk X (.Call (.Name x p) (e :: es) [] pos) (tMkO C sp [] ta) := by
  intro pins s σ H Q I h
  obtain ⟨B, ni, ii, tl, bm, bs, sb, nm, q, N, sn, ab, col, dd, k0, k1, k2, k3, k5, FB, hl, ht, _⟩ := T.ex
  refine wpAny_Call_Name_kw (ld_glob I hg hm ?_ hdb)
  refine PySem.W.callWith_K (h₀ := X.base) I.ok.mod.kin T.kp (thn (ha.run pos pins s σ H _ I h) fun us s1 ⟨vs, H1, I1, r1, hz, q1⟩ => ⟨I1.kIn, ?_⟩) he hpl
  show wpAny _ _ (call (.ref C) us) _ _ _
  obtain ⟨hp, g, dr, tk, os⟩ := s1
  have le1 : hp.objs.size ≤ hp.objs.size + 1 := Nat.le_succ _
  have hn : H1 (hp.objs.size + 1) = none := I1.hok.fresh le1
  have hq := q1 (hp.objs.size + 1) hn
  rw [List.append_nil] at hq
  have up2 : ∀ b o, hp.get? b = some o → ((hp.push (PySem.W.kdv_tup us)).push (PySem.HandSPX.excO C hp.objs.size)).get? b = some o := fun b o z => Heap.get?_push_of_some _ (Heap.get?_push_of_some _ z)
  have there : ((hp.push (PySem.W.kdv_tup us)).push (PySem.HandSPX.excO C hp.objs.size)).get? (hp.objs.size + 1) = some (PySem.HandSPX.excO C hp.objs.size) := by heap_get
  have I2 : Inv X pins σ (upd H1 (hp.objs.size + 1) (exo (hp.objs.size + 1) C none)) ⟨(hp.push (PySem.W.kdv_tup us)).push (PySem.HandSPX.excO C hp.objs.size), g, dr, tk, os⟩ := I1.laid (t' := tk) up2 le1 (exo_ok there)
  have r2 : Vals (V.ref (hp.objs.size + 1) :: vs) (Value.ref (hp.objs.size + 1) :: us) := .cons rfl r1
  have len2 : (Value.ref (hp.objs.size + 1) :: us).length = ps.length := r2.length.symm.trans (G.len _ _ _ _ hq)
  have small : us.length ≤ sizeLine := by rw [← Paired.length r1, sizeLine_eq]; omega
  have bd := hb _ (Value.ref (hp.objs.size + 1) :: us) I2.kIn (by rw [List.append_nil]; exact len2)
  rw [List.append_nil] at bd
  refine wpAny_call (PySem.HandSPX.call_own FB (fun Y => PySem.W.excTail_contains Y bm ht) (I1.kIn _ _ hl) (PySem.W.looks_findIn I1.kIn iC) (fun self => PySem.W.bind_fn I1.kIn self tI) small
    (codeAny_mono (G.run _ X.stack _ _ ⟨Value.ref (hp.objs.size + 1) :: us, []⟩ (Value.ref (hp.objs.size + 1) :: us) _ _ (fun _ _ _ => False) (hr.make C us []) (I2.env0.make C us []) bd r2 hq) fun r s' z => ?_))
  cases r with
  | error er => exact False.elim z
  | ok fl =>
    cases fl with
    | ret u =>
      obtain ⟨v, H2, os2, bare2, un2, hok2, rv, ev, d, fs, ea, ed, hd1, q2⟩ := z
      subst ev
      obtain ⟨h2, g2, d2, t2, os'⟩ := s'
      exact ⟨rv, mk_end (raises_own T.sub T.ty) I1 le1 up2 un2 hok2 os2 bare2 ea ed hd1 q2⟩
    | next => exact False.elim z
    | brk => exact False.elim z
    | cont => exact False.elim z
end
end DL
/-! raise, over data -/
namespace DL
open PySem PySem.Spec L2 C8 PyProof.Rows
def wRaise (C : Addr) (ns : List Str) (wl : WA) : WS := fun D ρ h => wl ρ h (fun ds h1 => ds.length = ns.length ∧ D.ex (.own C (ns.zip ds).reverse) h1) D.ex
section
variable (P : Program) (w : World) (K : PySem.W.Frag) (mg : Str → Option Value) (base : Heap)
/-- the exception class at C bears the name x; its init stores its parameters -/
structure XMk (x : Str) (C : Addr) (k : Nat) (ns : List Str) : Prop where
  ex : ∃ (f : Addr) (fd : FuncData) (ps : List Str), PySem.W.findIn K (.ref C) "__init__" = some (some (.ref f)) ∧ PySem.W.typeIn K (.ref f) = some (.type "function") ∧ FnOk P w K mg base L2.CX0 k f fd ps (spX K ns) ∧ Binds K fd ps []
  cls : XCls K C
  at_ : mg x = some (.ref C)
  no : ∀ f ∈ ns, PySem.W.findIn K (.ref C) f = some none
  sm : ns.length ≤ 1000
end
theorem Sim.growH {K : PySem.W.Frag} {F : Hp} {h : AH} {H : Hp} {p : Addr} (S : Sim K F h H) (e : H p = none) (u : HO) : Sim K F h (upd H p u) := by
  obtain ⟨e1, e2⟩ := S.free e
  refine ⟨fun a o q => ?_, fun a o q => ?_⟩
  · rw [upd_ne (fun z => by rw [z, e1] at q; cases q)]; exact S.fz _ _ q
  · rw [upd_ne (fun z => by rw [z, e2] at q; cases q)]; exact S.ob _ _ q
theorem RepF.app {K : PySem.W.Frag} {F : Hp} : ∀ {xs ys : List (Str × D)} {vs ws : List (Str × V)}, RepF K F xs vs → RepF K F ys ws → RepF K F (xs ++ ys) (vs ++ ws)
  | _, _, _, _, .nil, s => s
  | _, _, _, _, .cons h t, s => .cons h (RepF.app t s)
theorem RepF.rev {K : PySem.W.Frag} {F : Hp} : ∀ {xs : List (Str × D)} {vs : List (Str × V)}, RepF K F xs vs → RepF K F xs.reverse vs.reverse
  | _, _, .nil => .nil
  | _, _, .cons (k := k) h t => by rw [List.reverse_cons, List.reverse_cons]; exact RepF.app (RepF.rev t) (.cons h .nil)
theorem RepF.zip {K : PySem.W.Frag} {F : Hp} : ∀ (ns : List Str) {xs : List D} {vs : List V}, Reps K F xs vs → RepF K F (ns.zip xs) (ns.zip vs)
  | [], _, _, _ => .nil
  | _ :: _, _, _, .nil => .nil
  | n :: ns, _, _, .cons h t => .cons h (RepF.zip ns t)
section
variable {X : Cx} {E : XK} {gz : Bool} {k j : Nat} {C : Addr} {x : Str} {ns : List Str} {e : Expr} {es : List Expr} {wl : WA} {p pos pos' : Pos}
theorem as_raise (c : Cg gz X E k) (M : XMk X.prog X.w X.K X.mg X.base x C j ns) (hj : j + 1 ≤ k) (hl : AA X E (e :: es) wl) (tk : Takes X (fun cls d _ H => E cls d H) := by exact takes_of rfl rfl rfl rfl) (hg : Gl X x := by rfl)
    (hdb : (x == ("__debug__" : Str)) = false := by decide) (he : starEach (e :: es) X.env = (false, eval e X.env) :: starEach es X.env := by rfl) (hpl : (backTo pos (starEach es X.env)).any (·.1) = false := by rfl) :
    AS X E (.Raise (some (.Call (.Name x p) (e :: es) [] pos)) none pos') (wRaise C ns wl) := by
  obtain ⟨f, fd, ps, iC, tI, G, B⟩ := M.ex
  refine ⟨PS.imp (ps_raise c.calm tk (pmk_x M.cls iC tI G (c.room.mono hj) B hg M.at_ hl.run hdb he hpl)) fun D σ H hq => ?_, fun D D' ρ h hD q => hl.mo _ _ _ _ _ _ (fun ds h1 z => ⟨z.1, hD.ex _ _ z.2⟩) hD.ex q⟩
  obtain ⟨F, ρ, h, S, R, q⟩ := hq
  refine ⟨F, ρ, h, S, R, hl.mo _ _ _ _ _ _ (fun ds h1 z => ?_) (fun _ _ z => z) q⟩
  obtain ⟨l, z⟩ := z
  intro F1 H1 vs e1 S1 r
  have lv : vs.length = ns.length := by rw [← r.length]; exact l
  refine ⟨by rw [lv]; exact M.sm, fun a na => ?_⟩
  rw [List.append_nil]
  refine ⟨a, C, vs, rfl, lv, M.cls, M.no, upd_same, fun dx nd ne => ⟨rfl, dx, _, upd_same, by rw [upd_ne ne, upd_same], by rw [upd_ne ne] at nd; exact nd, ?_⟩⟩
  have nd1 : H1 dx = none := by rw [upd_ne ne] at nd; exact nd
  have eH : upd (L2.del (upd (upd (upd H1 a (exo a C none)) dx (exd dx (ns.zip vs).reverse)) a (exo a C (some dx))) a) dx (.xd (ns.zip vs).reverse) = upd H1 dx (.xd (ns.zip vs).reverse) := by
    funext b
    by_cases h1 : b = dx
    · subst h1; rw [upd_same, upd_same]
    · rw [upd_ne h1, upd_ne h1]
      by_cases h2 : b = a
      · subst h2; rw [L2.del_same, na]
      · rw [L2.del_ne h2, upd_ne h2, upd_ne h1, upd_ne h2]
  rw [eH]
  exact z F1 _ _ _ e1 (S1.growH nd1 _) ⟨rfl, .inr ⟨dx, _, rfl, upd_same, RepF.rev (RepF.zip ns r)⟩⟩
end
theorem u_raise {C : Addr} {ns : List Str} {wl : WA} {D : EndsD} {ρ : EnvD} {h : AH} : wRaise C ns wl D ρ h = wl ρ h (fun ds h1 => ds.length = ns.length ∧ D.ex (.own C (ns.zip ds).reverse) h1) D.ex := rfl
end DL
/-! try .. except (A, B, C) as e: y = e, the exception kept behind it -/
namespace DL
open PySem PySem.Spec L2 C8 PyProof.Rows
/-- the class test of an except clause -/
def XTest (X : Cx) (t : Expr) (ok : Value → Option Bool) : Prop :=
  ∀ (a : Addr) (pn : List (Addr × Obj)) (σ : L2.St) (H : Hp) (s : Shared) (cls : Value) (b : Bool) (E : Value → Shared → Prop) (Q : Bool → Shared → Prop), Inv (X.suite a pn) [] σ H s → PySem.W.Looks (model X.prog X.w) s.heap (typeOf (.ref a)) cls → ok cls = some b →
    (∀ h', (∀ q o, s.heap.get? q = some o → h'.get? q = some o) → Q b { s with heap := h' }) → wpAny (model X.prog X.w) (X.A.mark (some (.ref a))) (eval t X.env) (fun c s1 => wpAny (model X.prog X.w) (X.A.mark (some (.ref a))) (excMatches (.ref a) c) Q E s1) E s
theorem xt_name {X : Cx} {a1 a2 : Addr} {pn : List (Addr × Obj)} {σ : L2.St} {H : Hp} {s : Shared} {x : Str} {c : Value} {np : Pos} {Q : Value → Shared → Prop} {E : Value → Shared → Prop} (hc : Names X x c) (I : Inv (X.suite a1 pn) [] σ H s) (q : Q c s) :
    wpAny (model X.prog X.w) (X.A.mark (some (.ref a1))) (eval (.Name x np) X.env) Q E s := by
  obtain ⟨hg, hd, hm | ⟨hm, hv, hn⟩⟩ := hc
  · exact ld_glob (X := X.suite a1 pn) I hg hm q hd
  · exact ld_blt (X := X.suite a1 pn) I hg hm hv q hn hd
theorem xt_three {X : Cx} {x1 x2 x3 : Str} {c1 c2 c3 : Value} {p1 p2 p3 tpos : Pos} {kk : Nat} (n1 : Names X x1 c1) (n2 : Names X x2 c2) (n3 : Names X x3 c3) :
    XTest X (.Tuple [.Name x1 p1, .Name x2 p2, .Name x3 p3] kk tpos) (fun cls => PySem.W.exmAny X.K cls [c1, c2, c3]) := fun a pn σ H s cls b E Q I LT e q => by
  refine wpAny_Tuple (wpAny_items_cons (xt_name (a2 := a) n1 I (wpAny_items_cons (xt_name (a2 := a) n2 I (wpAny_items_cons (xt_name (a2 := a) n3 I (wpAny_items_nil ⟨by size_fits, ?_⟩)))))))
  have kp : ∀ y o, s.heap.get? y = some o → (s.heap.push { cls := .type "tuple", data := .seq [c1, c2, c3].toArray }).get? y = some o := fun _ _ z => Heap.get?_push_of_some _ z
  exact (PySem.W.exm_tup3 (I.kIn.keeps kp) (LT.keeps kp) (Heap.get?_push_size s.heap rfl) e).here (q _ kp)
theorem flying_keep {base h h' : Heap} {l : List Env} {e : Addr} {Z : Obj → Prop} (x : HandSPX.FlyingZ base l e Z h) (k : ∀ b o, h.get? b = some o → h'.get? b = some o) : HandSPX.FlyingZ base l e Z h' := by
  obtain ⟨f1, f2, f3, oe, vs, T, oT, ts, he, hz, hd, h1, hn, hne, hT, hdT, h3⟩ := x
  exact ⟨fun b o q => k b o (f1 b o q), f2, f3.of_keeps fun b o q _ => ⟨o, k b o q, rfl⟩, oe, vs, T, oT, ts, k _ _ he, hz, hd, h1, hn, hne, k _ _ hT, hdT, h3⟩
/-- an object of the heap that is new since the entry is known from now on -/
theorem inv_track {X : Cx} {pins : List (Addr × Obj)} {σ : L2.St} {H : Hp} {s : Shared} {a : Addr} {o : HO} (I : Inv X pins σ H s) (n : H a = none) (n0 : X.s_0.heap.get? a = none) (nL : a ≠ X.env.locals) (nC : ∀ x c, X.env.cells.lookup x = some c → c ≠ a) (nP : ∀ p ∈ X.pn ++ pins, p.1 ≠ a)
    (new : ObjOk X.prog X.w (upd H a o) s.heap a o) : Inv X pins σ (upd H a o) s := by
  have away : ∀ {b : Addr} {u : HO}, H b = some u → upd H a o b = H b := fun {b u} q => upd_ne (ne_of_none q n)
  refine ⟨I.ok, I.os, I.bare, ⟨I.base.keep, I.base.slot, fun b u e q hx => ?_, I.base.there, fun b xs q => ?_, fun b u xs q => ?_, fun b ps q => ?_⟩, I.loc, I.cell, ?_, fun x c e => ?_, fun p hp => ?_, fun b u e => ?_, I.len⟩
  · rw [upd_ne (fun z => by rw [z, n0] at e; cases e)]
    exact I.base.free b u e q hx
  · have z := I.base.tups b xs q
    rw [away z]; exact z
  · have z := I.base.frzs b u xs q
    rw [away z]; exact z
  · obtain ⟨m, z⟩ := I.base.tbls b ps q
    exact ⟨m, by rw [away z]; exact z⟩
  · rw [upd_ne (Ne.symm nL)]; exact I.free
  · rw [upd_ne (nC x c e)]; exact I.freeC x c e
  · obtain ⟨h1, h2, h3, h4, h5⟩ := I.pin p hp
    exact ⟨h1, by rw [upd_ne (nP p hp)]; exact h2, h3, h4, h5⟩
  · by_cases hb : b = a
    · subst hb
      obtain rfl := Option.some.inj (upd_same.symm.trans e)
      exact new
    · rw [upd_ne hb] at e
      exact (I.hok b u e).stay (fun c v _ z => z) (fun c z => (away z).trans z) fun c xs z => (away z).trans z
theorem exV_ok {P : Program} {w : World} {H : Hp} {h : Heap} {a C : Addr} {d : Option Addr} {oe : Obj} {vs : Array Value} (e : h.get? a = some oe) (z : Zc (.ref C) d oe) (hd : oe.data = .fields vs) : ObjOk P w H h a (exV a C d) :=
  ⟨⟨oe, vs, e, z, hd⟩, ⟨oe, e⟩, fun _ _ ⟨o, v, q, r⟩ k => ⟨o, v, k o q, r⟩⟩
/-- what the clause wishes: slot i is the clause's name, slot j keeps the exception -/
def wKeep (ok : Value → Option Bool) (i j : Nat) (Wout : WX) (D : Ends) : WX := fun cls d σ H =>
  ∃ b, ok cls = some b ∧ (b = true → ∃ C, cls = .ref C ∧ ∀ a, H a = none → D.nx (((σ.set i (some (.ref a))).set j (some (.ref a))).set i none) (upd H a (exV a C d))) ∧ (b = false → Wout cls d σ H)
section
variable {X : Cx} {n : Str} {i j : Nat} {body suite : List Stmt} {b₀ : Stmt} {te : Expr} {pos pos' : Pos} {tb : WX → TS} {Wout : WX} {ok : Value → Option Bool}
theorem ps_try_keep (hex : X.ex = []) (hs : X.stack = X.env :: X.outer) (hf : X.env.frame = some X.env.locals) (hN : X.N.Nodup) (hi : X.N[i]? = some n) (hln : X.env.kindOf n = some .local) (ht : XTest X te ok) (tk : Takes X Wout)
    (hb : ∀ (W : WX) (pn : List (Addr × Obj)) (xe : Value → Shared → Prop), Takes (X.tr pn xe) W → PassesOwn (model X.prog X.w) X.A X.env xe → PSs (X.tr pn xe) body (tb W))
    (hsu : ∀ (a : Addr) (pn : List (Addr × Obj)), PSs (X.suite a pn) (b₀ :: suite) (fun D σ H => ∃ v, σ[i]? = some (some v) ∧ D.nx (σ.set j (some v)) H)) (hij : i < X.N.length) :
    PS X (.Try body [.ExceptHandler (some te) (some n) (b₀ :: suite) pos'] [] [] pos) (fun D σ H => tb (wKeep ok i j Wout D) D σ H) := by
  refine ⟨fun pins s σ H D I h => ?_⟩
  have okX := I.ok
  have hfr : X.A.frames = some (X.env :: X.outer) := by rw [okX.frames, hs]
  have hloc : Loc X.env.scope n := .inl hln
  refine wpAny_Try_except (wpAny_mono ((hb (wKeep ok i j Wout D) (X.pn ++ pins) (fun e s₁ => wpAny (model X.prog X.w) X.A (noteFrame e X.env) (fun _ s₂ => wpAny (model X.prog X.w) X.A (setFlight e none) (fun _ s₃ =>
    wpAny (model X.prog X.w) X.A (handleBy e X.env [.ExceptHandler (some te) (some n) (b₀ :: suite) pos']) (SP X pins D) X.xe s₃) X.xe s₂) X.xe s₁) (fun u s' xx => ?_) PassesOwn.looking).run [] s σ H D (I.toTry _) h) (fun f s1 hsp => ?_) (fun e s1 he => he))
  · obtain ⟨a, B, sI, pins', σ', H', cls, d, rfl, J', nb, up, sky, na, os, ag, b, hb1, hyes, hno⟩ := xx
    have J : Inv X pins σ' H' sI := J'.ofTry okX
    have sky2 : Sky B (X.env :: X.outer) a (Zc cls d) X.env.locals s'.heap := by rw [← hs]; exact sky
    show wpAny (model X.prog X.w) X.A (noteFrame (.ref a) X.env) _ _ _
    refine Sky.land Zc.steady hfr hf sky2 fun h3 fl3 up3 => ?_
    have J3 : Inv X pins σ' H' { s' with heap := h3 } := J.landed nb fl3.1 (up.trans up3) os ag
    obtain ⟨oe3, vs3, he3, hz3, hd3⟩ := fl3.there
    have outFr : ∀ {h : Heap} {o : Obj} {vs : Array Value}, h.FunFrames B (X.env :: X.outer) → h.get? a = some o → o.data = .fields vs → a ∉ frs (X.env :: X.outer) := fun {h o vs} ff e dd hm => by
      obtain ⟨_, o2, e2, nf2⟩ := ff.mem hm
      rw [e] at e2
      obtain rfl := Option.some.inj e2
      exact nf2 _ dd
    have nfr := outFr fl3.2.2.1 he3 hd3
    have nL : a ≠ X.env.locals := fun z => nfr (List.mem_filterMap.mpr ⟨X.env, List.mem_cons_self, by rw [hf, z]⟩)
    have nF : a ∉ X.fs := fun hm => by
      obtain ⟨e, he, q⟩ := List.mem_filterMap.mp hm
      exact nfr (List.mem_filterMap.mpr ⟨e, List.mem_cons_of_mem _ he, q⟩)
    have nI : sI.heap.get? a = none := by
      cases q : sI.heap.get? a with
      | none => rfl
      | some o =>
        have z := nb a o q (by rw [hs]; exact nfr)
        rw [fl3.2.1] at z; cases z
    have S3 := J3.suite he3 hd3 na nL nF
    have LT : PySem.W.Looks (model X.prog X.w) h3 (typeOf (.ref a)) cls := fun A Q E s k q => wpAny_typeOf_ref (k _ _ he3) (by rw [hz3.1]; exact q)
    refine wpAny_handleBy_cons (codeAny_handlers_test (ht a _ σ' H' _ cls b _ _ S3 LT hb1 fun h4 kp => ?_)) (by intro q; cases q)
    have fl4 := flying_keep fl3 kp
    have up4 := (up.trans up3).trans (Heap.UpToSlots.of_keeps kp)
    cases b with
    | true =>
      obtain ⟨C, hC, go1⟩ := hyes rfl
      subst hC
      refine codeAny_handlers_suite_as (HandSPX.lands_againZ fl4 fun h5 fl5 up5 => ?_)
      have J5 : Inv X pins σ' H' { s' with heap := h5 } := J.landed nb fl5.1 (up4.trans up5) os ag
      obtain ⟨oe5, vs5, he5, hz5, hd5⟩ := fl5.there
      have S5 := J5.suite he5 hd5 na nL nF
      refine store_ok (X := X.suite a ((a, oe5) :: (X.pn ++ pins))) (v := .ref a) S5 hN hi hloc rfl (fun s6 S6 => ?_) (.inr hln)
      refine wpAny_mono ((hsu a ((a, oe5) :: (X.pn ++ pins))).run [] s6 _ H' { nx := fun σ7 H7 => σ7 = (σ'.set i (some (.ref a))).set j (some (.ref a)) ∧ H7 = H', rt := fun _ _ => False } S6 ⟨.ref a, ?_, rfl, rfl⟩) (fun f s7 hsp => ?_) (fun _ _ z => False.elim z)
      · exact List.getElem?_set_self (by rw [J.len]; exact hij)
      · cases f with
        | next =>
          obtain ⟨σ7, H7, S7, rfl, rfl⟩ := hsp
          obtain ⟨hpin, _⟩ := S7.pin (a, oe5) (List.mem_append_left _ List.mem_cons_self)
          have J7 : Inv X pins _ H7 s7 := S7.unsuite okX
          have n0 : X.s_0.heap.get? a = none := by
            cases q : X.s_0.heap.get? a with
            | none => rfl
            | some o =>
              obtain ⟨o2, z⟩ := J.base.there a o q (by rw [hex]; simp)
              rw [nI] at z; cases z
          have J8 := inv_track (o := exV a C d) J7 na n0 nL (fun x c e z => by
              obtain ⟨v, o, ho, hdc⟩ := J7.cell x c e
              rw [z, hpin] at ho
              obtain rfl := Option.some.inj ho
              rw [hd5] at hdc; cases hdc) (fun p hp z => by
              have y := (J.pin p hp).1
              rw [z, nI] at y; cases y) (exV_ok hpin hz5 hd5)
          exact gone_ok J8 hN hi hln fun s8 J9 => ⟨_, _, J9, go1 a na⟩
        | brk => obtain ⟨_, _, _, z⟩ := hsp; exact z.elim
        | cont => obtain ⟨_, _, _, z⟩ := hsp; exact z.elim
        | ret u => obtain ⟨_, _, _, _, _, z⟩ := hsp; exact z.elim
    | false =>
      show wpAny _ X.A (handleBy (.ref a) X.env []) _ _ _
      refine wpAny_handleBy_nil ?_
      obtain ⟨k1, k2, k3, oe, vs, T, oT, ts, he, hz, hd, h1, hr⟩ := id fl4
      unfold PySem.passOn
      refine wpAny_bind (wpAny_field he hd h1 ?_)
      rw [if_neg (show ¬ ((Value.ref T == Value.none) = true) from by simp)]
      have out : wpAny (model X.prog X.w) X.A (setFlight (.ref a) X.env.frame) (fun _ s5 => wpAny (model X.prog X.w) X.A (throw (.ref a) : Sem Flow) (SP X pins D) X.xe s5) X.xe { s' with heap := h4 } := by
        rw [hf]
        exact HandSPX.setFlight_upZ fl4 fun h5 hh5 up5 => wpAny_throw (tk _ _ ⟨a, B, sI, pins, σ', H', cls, d, rfl, J, nb, up4.trans up5, .inr (.inr (by rw [hs]; exact hh5)), na, os, ag, hno rfl⟩)
      first
        | exact wpAny_bind (wpAny_pure (wpAny_bind out))
        | exact wpAny_bind out
  · cases f with
    | next => obtain ⟨σ2, H2, K2, q⟩ := hsp; exact wpAny_execs_nil ⟨σ2, H2, K2.ofTry okX, q⟩
    | brk => obtain ⟨σ2, H2, K2, q⟩ := hsp; exact ⟨σ2, H2, K2.ofTry okX, q⟩
    | cont => obtain ⟨σ2, H2, K2, q⟩ := hsp; exact ⟨σ2, H2, K2.ofTry okX, q⟩
    | ret u => obtain ⟨v, σ2, H2, K2, r, q⟩ := hsp; exact ⟨v, σ2, H2, K2.ofTry okX, r, q⟩
end
end DL
namespace DL
open PySem PySem.Spec L2 C8 PyProof.Rows
/-- what is done with an exception of the classes errs: slot j of an empty frame keeps it -/
def exH (errs : List Addr) (n j : Nat) (D : EndsD) : KX := fun x h => match x with
  | .own C fs => C ∈ errs ∧ D.nx ((List.replicate n none).set j (some (.xob C fs))) h
  | .blt _ => False
def wTry (errs : List Addr) (n j : Nat) (wb : WS) : WS := fun D ρ h => wb { D with ex := exH errs n j D } ρ h
/-- an exception's dict is no object that may change -/
theorem xd_free {K : PySem.W.Frag} {F : Hp} {h : AH} {H : Hp} {dd : Addr} {vs : List (Str × V)} (S : Sim K F h H) (e : H dd = some (.xd vs)) : h dd = none := by
  cases q : h dd with
  | none => rfl
  | some o =>
    obtain ⟨_, u, hu, r⟩ := S.ob _ _ q
    rw [e] at hu
    obtain rfl := Option.some.inj hu
    cases o with
    | lst _ => obtain ⟨_, z, _⟩ := r; cases z
    | dK _ => obtain ⟨_, z, _⟩ := r; cases z
    | dT _ => obtain ⟨_, z, _⟩ := r; cases z
    | ins _ _ => obtain ⟨_, _, z, _⟩ := r; cases z
    | lck _ => obtain ⟨_, _, z, _⟩ := r; cases z
    | lckK _ _ => obtain ⟨_, z, _⟩ := r; cases z
    | tab _ => obtain ⟨_, z, _⟩ := r; cases z
/-- an object that stands in the heap and doesn't change is known from now on -/
theorem Sim.know {K : PySem.W.Frag} {F : Hp} {h : AH} {H : Hp} {p : Addr} {u : HO} (S : Sim K F h H) (e : H p = some u) (n : h p = none) : Ext F (upd F p u) ∧ Sim K (upd F p u) h H := by
  have ext : Ext F (upd F p u) := fun a o q => by
    by_cases c : a = p
    · subst c
      have z := S.fz _ _ q
      rw [e] at z
      rw [upd_same]; exact z
    · rw [upd_ne c]; exact q
  refine ⟨ext, fun a o q => ?_, fun a o q => ?_⟩
  · by_cases c : a = p
    · subst c
      rw [upd_same] at q
      rw [← q]; exact e
    · rw [upd_ne c] at q; exact S.fz _ _ q
  · have c : a ≠ p := fun z => by rw [z, n] at q; cases q
    obtain ⟨f, w, hw, r⟩ := S.ob _ _ q
    exact ⟨by rw [upd_ne c]; exact f, w, hw, r.ext ext⟩
/-- the kept exception, over data -/
theorem keep_sim {K : PySem.W.Frag} {F : Hp} {h : AH} {H : Hp} {C a : Addr} {d : Option Addr} {fs : List (Str × D)} {cls : Value} (S : Sim K F h H) (r : RepX K F H (.own C fs) cls d) (na : H a = none) :
    ∃ F2, Ext F F2 ∧ Sim K F2 h (upd H a (exV a C d)) ∧ Rep K F2 (.xob C fs) (.ref a) := by
  obtain ⟨_, ⟨rfl, rfl⟩ | ⟨dd, vs, rfl, hd, rf⟩⟩ := r
  · exact ⟨_, ext_upd (S.free na).1, S.newF na _, .xob0 upd_same⟩
  · obtain ⟨e1, S1⟩ := S.know hd (xd_free S hd)
    have e2 := ext_upd (o := exV a C (some dd)) (S1.free na).1
    exact ⟨_, e1.trans e2, S1.newF na _, .xob upd_same (e2 _ _ upd_same) ((rf.ext e1).ext e2)⟩
section
variable {X : Cx} {E : XK} {gz : Bool} {k i j : Nat} {n y x1 x2 x3 : Str} {c1 c2 c3 : Value} {body : List Stmt} {pos pos' p1 p2 p3 q1 q2 q3 q4 : Pos} {kk : Nat} {wb : WS} {errs : List Addr}
theorem takes_len {W : WX} {X : Cx} (t : Takes X W) : Takes X (fun cls d _ H => ∀ σ : L2.St, σ.length = X.N.length → W cls d σ H) := fun u s' ⟨a, B, sI, pins, σ, H, cls, d, e, I, nb, up, sky, na, os, ag, w⟩ =>
  t u s' ⟨a, B, sI, pins, σ, H, cls, d, e, I, nb, up, sky, na, os, ag, w σ I.len⟩
/-- in the body of a try -/
theorem cg_try (c : Cg gz X E k) {pn : List (Addr × Obj)} {xe : Value → Shared → Prop} {W : WX} (t : Takes (X.tr pn xe) W) (po : PassesOwn (model X.prog X.w) X.A X.env xe) : Cg gz (X.tr pn xe) (fun cls d H => ∀ σ : L2.St, σ.length = X.N.length → W cls d σ H) k :=
  ⟨c.room, c.gd, c.calm, c.nd, passes_call (takes_len t) (fun _ _ _ _ z => z), po⟩
theorem as_try (i j : Nat) (c : Cg gz X E k) (he : ∀ C ∈ errs, PySem.W.exmAny X.K (.ref C) [c1, c2, c3] = some true) (m1 : X.mg x1 = some c1) (m2 : X.mg x2 = some c2) (m3 : X.mg x3 = some c3)
    (hb : ∀ (pn : List (Addr × Obj)) (xe : Value → Shared → Prop) (E' : XK), Takes (X.tr pn xe) (fun cls d _ H => E' cls d H) → Cg gz (X.tr pn xe) E' k → ASs (X.tr pn xe) E' body wb)
    (hij : i ≠ j) (g1 : Gl X x1 := by rfl) (g2 : Gl X x2 := by rfl) (g3 : Gl X x3 := by rfl) (d1 : (x1 == ("__debug__" : Str)) = false := by decide) (d2 : (x2 == ("__debug__" : Str)) = false := by decide) (d3 : (x3 == ("__debug__" : Str)) = false := by decide)
    (tk : Takes X (fun cls d _ H => E cls d H) := by exact takes_of rfl rfl rfl rfl)
    (hi : X.N[i]? = some n := by rfl) (hj : X.N[j]? = some y := by rfl) (hs : X.stack = X.env :: X.outer := by rfl) (hf : X.env.frame = some X.env.locals := by rfl) (hex : X.ex = [] := by rfl) (hln : X.env.kindOf n = some .local := by rfl)
    (hy : Loc X.env.scope y := by first | exact Or.inl rfl | exact Or.inr rfl) (hfy : X.fn y = true ∨ X.env.scope.names.lookup y = some .local := by first | exact .inl rfl | exact .inr rfl) (hv : Vis X.env.scope n := by exact Or.inl rfl)
    (hsw : swapsWith (.Name n p2) (some (.Name y p1)) p3.line X.env = pure false := by rfl) (hd : (n == ("__debug__" : Str)) = false := by decide) (hcd : (n == ("__classdict__" : Str)) = false := by decide) :
    AS X E (.Try body [.ExceptHandler (some (.Tuple [.Name x1 q1, .Name x2 q2, .Name x3 q3] kk q4)) (some n) [.Assign [.Name y p1] (.Name n p2) p3] pos'] [] [] pos) (wTry errs X.N.length j wb) := by
  have li : i < X.N.length := (List.getElem?_eq_some_iff.mp hi).1
  have lj : j < X.N.length := (List.getElem?_eq_some_iff.mp hj).1
  have hmo : MoS wb := by
    have tk2 : Takes (X.tr X.pn X.xe) (fun cls d _ H => E cls d H) := tk
    refine (hb X.pn X.xe E tk2 ?_).mo
    exact ⟨c.room, c.gd, c.calm, c.nd, passes_call (X := X.tr X.pn X.xe) tk2 (fun _ _ _ _ z => z), c.po⟩
  refine ⟨PS.imp (ps_try_keep (j := j) (ok := fun cls => PySem.W.exmAny X.K cls [c1, c2, c3]) (Wout := fun cls d _ H => E cls d H) (tb := fun W => tS X.K (fun cls d H => ∀ σ : L2.St, σ.length = X.N.length → W cls d σ H) wb)
    hex hs hf c.nd hi hln (xt_three ⟨g1, d1, .inl m1⟩ ⟨g2, d2, .inl m2⟩ ⟨g3, d3, .inl m3⟩) tk (fun W pn xe t po => (hb pn xe _ (takes_len t) (cg_try c t po)).run) (fun a pn => pss_one (ps_set (X := X.suite a pn) c.nd hj hy (pe_var (X := X.suite a pn) hi hv hd hcd) hsw hfy)) li) fun D σ H hq => ?_, fun D D' ρ h hD q => hmo { D with ex := exH errs X.N.length j D } { D' with ex := exH errs X.N.length j D' } ρ h ⟨hD.nx, hD.rt, hD.bk, hD.ct, fun x h1 z => ?_⟩ q⟩
  · obtain ⟨F, ρ, h, S, R, q⟩ := hq
    refine ⟨F, ρ, h, S, R, hmo { LD X.K F D E with ex := exH errs X.N.length j (LD X.K F D E) } _ ρ h ⟨fun _ _ z => z, fun _ _ z => z, fun _ _ z => z, fun _ _ z => z, fun x h1 z => ?_⟩ q⟩
    intro F1 H1 cls d e1 S1 rx
    cases x with
    | blt b => exact z.elim
    | own C fs =>
      obtain ⟨hC, z⟩ := z
      intro σ1 l1
      have hcls : cls = .ref C := rx.1
      refine ⟨true, by rw [hcls]; exact he C hC, fun _ => ⟨C, hcls, fun a na => ?_⟩, fun z => Bool.noConfusion z⟩
      obtain ⟨F2, e2, S2, rep⟩ := keep_sim S1 rx na
      refine z F2 _ _ (e1.trans e2) S2 ⟨by simp [l1], fun m d hm => ?_⟩
      by_cases c : m = j
      · subst c
        rw [List.getElem?_set_self (by simpa using lj)] at hm
        obtain rfl := Option.some.inj (Option.some.inj hm)
        refine ⟨.ref a, ?_, rep⟩
        rw [List.getElem?_set_ne hij, List.getElem?_set_self (by simpa [l1] using lj)]
      · rw [List.getElem?_set_ne (Ne.symm c), List.getElem?_replicate] at hm
        split at hm <;> cases hm
  · cases x with
    | blt b => exact z
    | own C fs => exact ⟨z.1, hD.nx _ _ z.2⟩
end
theorem u_try {errs : List Addr} {n j : Nat} {wb : WS} {D : EndsD} {ρ : EnvD} {h : AH} : wTry errs n j wb D ρ h = wb { D with ex := exH errs n j D } ρ h := rfl
end DL
/-! x(lambda: ..), over data -/
namespace DL
open PySem PySem.Spec L2 C8 PyProof.Rows LamX
section
variable {X : Cx} {pins : List (Addr × Obj)} {σ : L2.St} {H : Hp} {s : Shared}
/-- the lambda is made; its code object is known -/
theorem lam_make3 {F : Hp} {h : AH} {c P : Addr} {params : Arguments} {body : Expr} {scope : Scope} {pos : Pos} {E : Value → Shared → Prop} {Q : Value → Shared → Prop} (I : Inv X pins σ H s) (TB : TabB X.base X.mg c P) (hcode : X.env.code = .ref c) (S : Sim X.K F h H)
    (hP : h P = some (.tab (X.env.qual ++ "<lambda>"))) (hdef : defaultsOf params X.env = ([], [])) (hfree : ∀ y ∈ scope.names, y.2 = .free → ∃ c, X.env.cells.lookup y.1 = some c)
    (go : ∀ (f c' : Addr) (pm ctv : Value) (H1 F1 : Hp) (s' : Shared), Inv X pins σ H1 s' → Ext F F1 → Sim X.K F1 h H1 → s'.heap.get? f = some (PySem.W.kla_obj "<lambda>" (X.env.qual ++ "<lambda>") params body scope (cloFrom X.env.cells scope.names []) pm c' ctv) →
      H1 f = none → f ∉ frs X.stack → F1 c' = some (CodeO c' (X.env.qual ++ "<lambda>")) → Q (.ref f) s') :
    wpAny (model X.prog X.w) X.A (eval (.Lambda params body scope pos) X.env) Q E s := by
  obtain ⟨FP, u, HP, ps, rfl, tr, am⟩ := S.ob _ _ hP
  refine PySem.W.kla_eval hdef ?_
  have builtP : s.heap.BuiltinsAt X.mg P := TB.bm.keeps I.bk
  have atP : s.heap.get? P = some { cls := .none, data := .fields ps } := I.hok P _ HP
  have outside : ∀ f, s.heap.objs.size ≤ f → f ∉ frs X.stack := fun f hf z => by
    rcases List.mem_cons.mp (I.stkSub _ z) with e | e
    · have l1 := I.lt
      rw [← e] at l1
      exact Nat.lt_irrefl _ (Nat.lt_of_lt_of_le l1 hf)
    · exact I.nofs hf e
  cases hc : codeAmong pos ps.toList with
  | some cv =>
    obtain ⟨c', rfl, hF⟩ := am pos cv hc
    refine PySem.W.kla_makeFunctionHit (mg := X.mg) (c := c) (P := P) (ps := ps) (closure_ok hfree) I.ok.glob (I.mod.glob.keeps I.bk) hcode (TB.code.keeps I.bk) atP tr hc builtP fun ctv h2 tk2 kx hsz => ?_
    exact go h2.objs.size c' ((X.mg "__name__").getD .none) ctv H F _ (I.kept fun b o e => Heap.get?_push_of_some _ (kx b o e)) (Ext.refl F) S (Heap.get?_push_size _ rfl) (I.hok.fresh hsz) (outside _ hsz) hF
  | none =>
    refine PySem.W.kla_makeFunction (mg := X.mg) (c := c) (P := P) (ps := ps) (closure_ok hfree) I.ok.glob (I.mod.glob.keeps I.bk) hcode (TB.code.keeps I.bk) atP tr hc TB.gP builtP fun c' ctv h2 tk2 kx hge hlt rec2 tb2 => ?_
    obtain ⟨c2, oc, vs, t, e2, hoc, hd, hv⟩ := rec2
    obtain rfl := Value.ref.inj e2
    have sz : s.heap.objs.size ≤ h2.objs.size := Nat.le_trans hge (Nat.le_of_lt hlt)
    have nC : H c' = none := I.hok.fresh hge
    have J := inv_table (t' := tk2) (more := #[rawInt pos.line, rawInt pos.col, .ref c']) (h' := h2.push (PySem.W.kla_obj "<lambda>" (X.env.qual ++ "<lambda>") params body scope (cloFrom X.env.cells scope.names []) ((X.mg "__name__").getD .none) c' ctv)) I HP
      (fun b o hb e => Heap.get?_push_of_some _ (kx b o hb e)) (Heap.get?_push_of_some _ tb2) hge ⟨oc, vs, t, Heap.get?_push_of_some _ hoc, hd, hv⟩
    have nF : F c' = none := (S.free nC).1
    have ex1 : Ext F (upd F c' (CodeO c' (X.env.qual ++ "<lambda>"))) := ext_upd nF
    have tl : (ps ++ #[rawInt pos.line, rawInt pos.col, .ref c']).toList = ps.toList ++ [rawInt pos.line, rawInt pos.col, .ref c'] := by simp
    have nPc : P ≠ c' := fun z => by rw [z, nC] at HP; cases HP
    have S1 : Sim X.K (upd F c' (CodeO c' (X.env.qual ++ "<lambda>"))) h (upd (upd H P (.tbl (ps ++ #[rawInt pos.line, rawInt pos.col, .ref c']))) c' (CodeO c' (X.env.qual ++ "<lambda>"))) := by
      refine ⟨fun a o q => ?_, fun a o q => ?_⟩
      · by_cases h1 : a = c'
        · subst h1; rw [upd_same] at q ⊢; exact q
        · rw [upd_ne h1] at q
          have h3 : a ≠ P := fun z => by rw [z, FP] at q; cases q
          rw [upd_ne h1, upd_ne h3]; exact S.fz _ _ q
      · obtain ⟨fa, w, hw, r⟩ := S.ob _ _ q
        have h1 : a ≠ c' := fun z => by rw [z, nC] at hw; cases hw
        refine ⟨by rw [upd_ne h1]; exact fa, ?_⟩
        by_cases h3 : a = P
        · subst h3
          obtain rfl := Option.some.inj (hP.symm.trans q)
          refine ⟨_, by rw [upd_ne h1, upd_same], _, rfl, by rw [tl]; exact PySem.TriplesOk_snoc _ _ _ _ tr, fun p2 cv2 hc2 => ?_⟩
          rw [tl] at hc2
          rcases among_app _ tr hc2 with z | z
          · obtain ⟨c0, e1, e2⟩ := am p2 cv2 z
            exact ⟨c0, e1, ex1 _ _ e2⟩
          · exact ⟨c', z, upd_same⟩
        · exact ⟨w, by rw [upd_ne h1, upd_ne h3]; exact hw, r.ext ex1⟩
    have n1 : h2.objs.size ≠ c' := Nat.ne_of_gt hlt
    have n2 : h2.objs.size ≠ P := Nat.ne_of_gt (Nat.lt_of_lt_of_le (Heap.lt_size atP) sz)
    exact go h2.objs.size c' ((X.mg "__name__").getD .none) ctv _ _ _ J ex1 S1 (Heap.get?_push_size _ rfl) (by rw [upd_ne n1, upd_ne n2]; exact I.hok.fresh sz) (outside _ sz) upd_same
end
/-! ### thunks -/
abbrev Thk := AH → KD → KX → Prop
/-- monotone -/
def MoK (tl : Thk) : Prop := ∀ h Q Q' X X', (∀ d h, Q d h → Q' d h) → (∀ x h, X x h → X' x h) → tl h Q X → tl h Q' X'
abbrev HSpec := Thk → AH → KD → KX → Prop
def MoH (HS : HSpec) : Prop := ∀ t, MoK t → ∀ h Q Q' X X', (∀ d h, Q d h → Q' d h) → (∀ x h, X x h → X' x h) → HS t h Q X → HS t h Q' X'
/-- a call of the thunk d that slot i holds -/
def wAct (i : Nat) (d : D) (tl : Thk) : WE := fun ρ h Q X => ρ[i]? = some (some d) ∧ tl h Q X
/-- in the body of a def that gets a thunk: it may be called in a try -/
def ActOk (X : Cx) (a : Str) (d : D) (tl : Thk) : Prop := ∀ (pn : List (Addr × Obj)) (xe : Value → Shared → Prop) (E' : XK) (p1 p2 : Pos), Takes (X.tr pn xe) (fun cls d _ H => E' cls d H) → AE (X.tr pn xe) E' (.Call (.Name a p1) [] [] p2) (wAct 0 d tl)
section
variable (P : Program) (w : World) (K : PySem.W.Frag) (mg : Str → Option Value) (base : Heap)
/-- a def of the module that gets a thunk -/
structure HCal (gz : Bool) (x : Str) (k : Nat) (HS : HSpec) : Prop where
  ex : ∃ (g : Addr) (fd : FuncData) (st : Stmt) (N : List Str) (a : Str) (W : D → Thk → WS), mg x = some (.ref g) ∧ L2.Fun K x x st g fd ∧ FnScope N [a] (defScope st) ∧ N[0]? = some a ∧ Vis (defScope st) a ∧ (a == ("__debug__" : Str)) = false ∧ (a == ("__classdict__" : Str)) = false ∧
    (∀ (s : Shared) (u : Value), BindsTo s fd ⟨[u], []⟩ [(a, u)]) ∧
    (∀ (d : D) (tl : Thk), MoK tl → ∀ (cdv : Value) (A : Around) (outer : List PySem.Env) (s : Shared) (H : Hp) (E : XK), Cg gz (cxOf (L2.CX P w) P w K mg base N x (defScope st) g cdv A outer s H E) E k →
      ActOk (cxOf (L2.CX P w) P w K mg base N x (defScope st) g cdv A outer s H E) a d tl → ASs (cxOf (L2.CX P w) P w K mg base N x (defScope st) g cdv A outer s H E) E (defBody st) (W d tl)) ∧
    ∀ d tl, MoK tl → ∀ h Q X, HS tl h Q X → W d tl (endsD Q X) (startD N.length [d]) h
  mo : MoH HS
end
/-- x(lambda: e): the table at P, the reading of e -/
def wHeard (HS : HSpec) (P : Addr) (q : Str) (we : WE) : WE := fun ρ h Q X => h P = some (.tab q) ∧ HS (we ρ) h Q X
section
variable {X : Cx} {E : XK} {gz gy : Bool} {k j : Nat} {x : Str} {HS : HSpec} {c P : Addr} {params : Arguments} {body : Expr} {scope : Scope} {p lpos pos : Pos} {we : WE}
/-- in the body of the lambda -/
theorem cg_lam (c : Cg gz X E k) {A : Around} {outer : List PySem.Env} {s : Shared} {H : Hp} {E' : XK} {f c' : Addr} {m : Nat} (hr : Room m (A.deeper (lamEnv X scope s.heap.objs.size f c'))) : Cg false (lamCx X A outer s H E' scope f c') E' m :=
  ⟨hr, fun z => Bool.noConfusion z, rfl, c.nd, passes_call (X := lamCx X A outer s H E' scope f c') (takes_of rfl rfl rfl rfl) (fun _ _ _ _ z => z), passes_of rfl⟩
theorem ae_heard (c : Cg gz X E k) (M : HCal X.prog X.w X.K X.mg X.base gy x j HS) (hz : gy = true → gz = true) {cc : Addr} (TB : TabB X.base X.mg cc P) (hcode : X.env.code = .ref cc) (hj : j + 1 ≤ k)
    (he : ∀ (A : Around) (outer : List PySem.Env) (s : Shared) (H : Hp) (E' : XK) (f c' : Addr), Cg false (lamCx X A outer s H E' scope f c') E' (k - 2) → AE (lamCx X A outer s H E' scope f c') E' body we)
    (L : LamS X.env.scope scope) (hk2 : 2 ≤ k) (hdef : defaultsOf params X.env = ([], []) := by rfl)
    (hbind : ∀ (q : Str) (cl : List (Str × Addr)) (pm cv ctv : Value), bindArgs (PySem.W.kla_fn "<lambda>" q params body scope cl pm cv ctv) ⟨[], []⟩ = pure [] := by intro _ _ _ _ _; rfl) (hg : Gl X x := by rfl)
    (hdb : (x == ("__debug__" : Str)) = false := by decide) :
    AE X E (.Call (.Name x p) [.Lambda params body scope lpos] [] pos) (wHeard HS P (X.env.qual ++ "<lambda>") we) := by
  obtain ⟨g, fd, st, N, a, W, hm, Fn, sc, hN0, hva, ha1, ha2, hb, bodyH, pureH⟩ := M.ex
  obtain ⟨oc, od, kV, doc, pm0, an, cdv, ct, osl, rfl, lk, hcd⟩ := Fn.ex
  have room1 : ∀ (e : PySem.Env), Room (k - 1) (X.A.deeper e) := fun e => (c.room.mono (j := k - 1 + 1) (by omega)).deeper e
  have room2 : ∀ (e e2 : PySem.Env), Room (k - 2) ((X.A.deeper e).deeper e2) := fun e e2 => ((room1 e).mono (j := k - 2 + 1) (by omega)).deeper e2
  have moE : MoE we := (he (X.A.deeper X.env) X.outer X.s_0 X.H_0 E 0 0 (cg_lam c (room2 _ _))).mo
  have moW : ∀ ρ, MoK (we ρ) := fun ρ h Q Q' X X' hQ hX z => moE _ _ _ _ _ _ hQ hX z
  refine ⟨⟨fun pins s σ H Q I hq => ?_⟩, fun ρ h0 Q Q' X X' hq hx q => ⟨q.1, M.mo _ (moW ρ) _ _ _ _ _ hq hx q.2⟩⟩
  obtain ⟨F, ρ, h, S, R, hP, q⟩ := hq
  refine wpAny_Call_Name_kw (ld_glob I hg hm ?_ hdb)
  refine PySem.W.callWith_K (h₀ := X.base) I.ok.mod.kin Fn.kp ?_ (by rfl) (by rfl)
  show wpAny _ _ (spliced ((false, eval (.Lambda params body scope lpos) X.env) :: backTo pos (starEach [] X.env))) _ _ s
  refine Calls.spliced_cons (lam_make3 I TB hcode S hP hdef (L.has I.ok) fun f c' pm ctv H1 F1 s1 I1 e1 S1 hf hfn hfr hco => Calls.spliced_nil ⟨I1.kIn, ?_⟩)
  have R1 := R.ext e1
  have rc : codeAny (model X.prog X.w) X.A (.call (.ref g) ⟨[.ref f], []⟩) (CR (L2.CX X.prog X.w) X.stack X.prog X.w H1 s1 Q E) s1 := by
    have inK : X.K.In s1.heap := I1.kIn
    refine codeAny_call_function c.room.depth (inK _ _ lk) rfl sc.co sc.gen rfl (PySem.W.codeRec_of inK hcd) (hb _ _ _ _ _ _ ?_)
    have kinds : ∀ y ∈ [(a, Value.ref f)], (defScope st).names.lookup y.1 = some .local ∨ ((defScope st).names.lookup y.1 = some .cell ∧ ((cellsFrom (s1.heap.objs.size + 1) (defScope st).names []).lookup y.1).isSome = true) := fun ⟨n, v⟩ hy => by
      have e : (n, v) = (a, Value.ref f) := by simpa using hy
      obtain ⟨rfl, rfl⟩ := Prod.mk.inj e
      cases sc.par n (by simp) with
      | inl q => exact .inl q
      | inr q => exact .inr ⟨q, PySem.W.cellsFrom_some _ _ _ (.inl q)⟩
    refine wpAny_newFunctionEnv_cells sc.kind kinds fun env hE s2 ic => ?_
    subst hE
    refine ⟨I1.nolimit.keeps ic.toInCall.keep, codeAny_func ?_⟩
    have I2 := inv_start (CX := L2.CX X.prog X.w) (P := X.prog) (w := X.w) (mg := X.mg) (base := X.base) (E := E) (vs := [V.ref f]) (us := [Value.ref f]) sc c.room.hd I1.env0 rfl (.cons rfl .nil) ic
    have cg : Cg gy (cxOf (L2.CX X.prog X.w) X.prog X.w X.K X.mg X.base N x (defScope st) g cdv X.A X.stack s1 H1 E) E j :=
      ⟨(room1 _).mono (by omega), fun z => c.gd (hz z), rfl, sc.nd, passes_call (takes_of rfl rfl rfl rfl) fun _ _ _ _ z => z, passes_of rfl⟩
    have act : ActOk (cxOf (L2.CX X.prog X.w) X.prog X.w X.K X.mg X.base N x (defScope st) g cdv X.A X.stack s1 H1 E) a (.lam f c' (X.env.qual ++ "<lambda>") ρ σ) (we ρ) := fun pn xe E' p1 p2 tk => by
      refine ⟨PE.imp (pe_act (i := 0) (k := k - 2) (tb := tE X.K E' we) I1 L hf hfn hfr (hbind _ _ _ _ _) tk (fun _ _ _ _ z => z) ((room1 _).mono (by omega)) (fun A outer s H r2 => (he A outer s H E' f c' (cg_lam c r2)).run) hN0 hva ha1 ha2) fun σZ HZ Q hq => ?_, fun ρ1 h1 Q Q' X X' hQ hX z => ⟨z.1, moE _ _ _ _ _ _ hQ hX z.2⟩⟩
      obtain ⟨F3, ρz, h3, S3, R3, hd, q3⟩ := hq
      obtain ⟨v, hv, rep⟩ := R3.2 0 _ hd
      cases rep with
      | lam hc re => exact ⟨hv, S3.fz _ _ hc, F3, ρ, h3, S3, re.env, q3⟩
    have B := bodyH (.lam f c' (X.env.qual ++ "<lambda>") ρ σ) (we ρ) (fun h Q Q' X X' hQ hX z => moE _ _ _ _ _ _ hQ hX z) cdv X.A X.stack s1 H1 E cg act
    have go : tS X.K E (W (.lam f c' (X.env.qual ++ "<lambda>") ρ σ) (we ρ)) { nx := fun _ H' => Q .non H', rt := Q } (L2.start N [.ref f]) H1 := by
      refine ⟨F1, _, h, S1, start_env (ds := [.lam f c' (X.env.qual ++ "<lambda>") ρ σ]) (.cons (.lam hco R1.rep) .nil), B.mo (endsD (LQ X.K F1 Q) (LX X.K F1 E)) _ _ _ ⟨fun ρ h z => ?_, fun d h z => LQ.fin z, fun _ _ z => False.elim z, fun _ _ z => False.elim z, fun _ _ z => z⟩ (pureH _ (we ρ) (moW ρ) h _ _ (M.mo _ (moW ρ) _ _ _ _ _ (fun d h z => LQ.ext e1 z) (fun x h z => LX.ext e1 z) q))⟩
      exact fun F' H' σ' e S' _ => LQ.fin z F' H' .non e S' .non
    refine wpAny_mono (B.run.run [] s2 _ H1 _ I2 go) (fun fl s' hq => ?_) fun e s' hq => hq
    cases fl with
    | ret u =>
      obtain ⟨v, σ', H', J, rv, q⟩ := hq
      exact ⟨v, H', J.os, J.bare, J.base, J.hok, rv, q⟩
    | next =>
      obtain ⟨σ', H', J, q⟩ := hq
      exact ⟨.non, H', J.os, J.bare, J.base, J.hok, rfl, q⟩
    | brk => obtain ⟨_, _, _, q⟩ := hq; exact q.elim
    | cont => obtain ⟨_, _, _, q⟩ := hq; exact q.elim
  refine wpAny_call (codeAny_mono rc fun r s3 hq => ?_)
  match r, hq with
  | .error e, hq => exact c.ps pins σ H1 s1 e s3 I1 hq
  | .ok (.ret u), hq => exact I1.after hq
  | .ok .next, hq => exact hq.elim
  | .ok .brk, hq => exact hq.elim
  | .ok .cont, hq => exact hq.elim
end
end DL
/-! the end of a law that makes lambdas; defs that make lambdas -/
namespace DL
open PySem PySem.Spec L2 C8 PyProof.Rows LamX
/-- a def whose code object is known -/
structure FunC (K : PySem.W.Frag) (x qual : Str) (st : Stmt) (f : Addr) (fd : FuncData) (cc : Addr) : Prop where
  ex : ∃ (oc : Value) (od : Option Addr) (kV doc pm : Value) (an : Option Addr) (ct : Value) (osl : Array (Option Value)),
    fd = PySem.W.fnOf x qual (defArgs st) (defBody st) (defScope st) .none kV doc pm an (.ref cc) ct ∧ K.lookup f = some ⟨oc, od, .func fd, osl⟩ ∧ PySem.W.codeIn K (.ref cc) qual = true
theorem FunC.of {K : PySem.W.Frag} {x qual : Str} {st : Stmt} {f : Addr} {fd : FuncData} {cc : Addr} (F : L2.Fun K x qual st f fd) (h : fd.code = .ref cc) : FunC K x qual st f fd cc := by
  obtain ⟨oc, od, kV, doc, pm, an, cdv, ct, osl, rfl, lk, hcd⟩ := F.ex
  have e : cdv = .ref cc := h
  subst e
  exact ⟨oc, od, kV, doc, pm, an, ct, osl, rfl, lk, hcd⟩
/-- the code object and the table of a def of the module -/
theorem tabIn_of {K : PySem.W.Frag} {x : Str} {f cc P : Addr} {oc kc : Value} {od kd : Option Addr} {fd : FuncData} {osl ks : Array (Option Value)} {vs : Array Value} (hn : PySem.W.nsIn K mainGlobals x = some (some (.ref f))) (hf : K.lookup f = some ⟨oc, od, .func fd, osl⟩) (hc : fd.code = .ref cc)
    (hk : K.lookup cc = some ⟨kc, kd, .fields vs, ks⟩) (hv : vs[11]? = some (.ref P)) : PySem.W.tabIn K x = some (cc, P) := by
  unfold PySem.W.tabIn
  simp only [hn, hf, hc, hk, hv]
/-- three classes in an except clause -/
theorem exm3_of {K : PySem.W.Frag} {cls : Value} {C1 C2 C3 : Addr} {b1 b2 b3 : Bool} (h1 : PySem.W.exmOne K cls (.ref C1) = some b1) (h2 : PySem.W.exmOne K cls (.ref C2) = some b2) (h3 : PySem.W.exmOne K cls (.ref C3) = some b3) (hb : (b1 || (b2 || (b3 || false))) = true) :
    PySem.W.exmAny K cls [.ref C1, .ref C2, .ref C3] = some true := by
  simp only [PySem.W.exmAny, h1, h2, h3, hb]
section
variable {P : Program} {w : World} {K : PySem.W.Frag} {mg : Str → Option Value} {base : Heap}
/-- THE RULE for a def whose code object is known -/
theorem fng_ofC {gz : Bool} {x qual : Str} {st : Stmt} {f cc : Addr} {fd : FuncData} {N ps : List Str} {k : Nat} {S : FSpec} {W : WS}
    (F : FunC K x qual st f fd cc) (sc : FnScope N ps (defScope st)) (len : ∀ ds h Q X, S ds h Q X → ds.length = ps.length) (mo : MoF S)
    (body : ∀ (A : Around) (outer : List PySem.Env) (s : Shared) (H : Hp) (E : XK), Cg gz (cxOf (L2.CX P w) P w K mg base N qual (defScope st) f (.ref cc) A outer s H E) E k →
      ASs (cxOf (L2.CX P w) P w K mg base N qual (defScope st) f (.ref cc) A outer s H E) E (defBody st) W)
    (pure : ∀ ds h Q X, S ds h Q X → W (endsD Q X) (startD N.length ds) h) : FnG gz P w K mg base (k + 1) f fd ps S := by
  refine ⟨len, mo, fun {A outer s H args us vs Q E} hr hg e0 hb hv hs => ?_⟩
  obtain ⟨oc, od, kV, doc, pm, an, ct, osl, rfl, lk, hcd⟩ := F.ex
  have lenv := spD_len len hs
  have inK : K.In s.heap := e0.mod.kin.keeps fun b o e => (e0.bs b o e).1
  have nol : s.heap.NoLimit := e0.mod.nolimit.keeps fun b o e => (e0.bs b o e).1
  have kinds : ∀ y ∈ ps.zip us, (defScope st).names.lookup y.1 = some .local ∨ ((defScope st).names.lookup y.1 = some .cell ∧ ((cellsFrom (s.heap.objs.size + 1) (defScope st).names []).lookup y.1).isSome = true) := by
    rintro ⟨n, v⟩ hy
    rcases sc.par n (List.of_mem_zip hy).1 with q | q
    · exact .inl q
    · exact .inr ⟨q, PySem.W.cellsFrom_some _ _ _ (.inl q)⟩
  refine codeAny_call_function hr.depth (inK _ _ lk) rfl sc.co sc.gen rfl (PySem.W.codeRec_of inK hcd) (hb _ _ _ _ (wpAny_newFunctionEnv_cells sc.kind kinds fun env he s1 ic => ?_))
  subst he
  refine ⟨nol.keeps ic.toInCall.keep, codeAny_func ?_⟩
  have I := inv_start (CX := L2.CX P w) (P := P) (w := w) (mg := mg) (base := base) (E := E) sc hr.hd e0 lenv hv ic
  have c : Cg gz (cxOf (L2.CX P w) P w K mg base N qual (defScope st) f (.ref cc) A outer s H E) E k := ⟨hr.deeper _, hg, rfl, sc.nd, passes_call (takes_of rfl rfl rfl rfl) fun _ _ _ _ z => z, passes_of rfl⟩
  obtain ⟨F0, ds, g, S0, r0, q0⟩ := hs
  have B := body A outer s H E c
  have go : tS K E W { nx := fun _ H' => Q .non H', rt := Q } (L2.start N vs) H :=
    ⟨F0, _, g, S0, start_env r0, B.mo (endsD (LQ K F0 Q) (LX K F0 E)) _ _ _ ⟨fun ρ h z F' H' σ' e S' _ => LQ.fin z F' H' .non e S' .non, fun d h z => LQ.fin z, fun _ _ z => False.elim z, fun _ _ z => False.elim z, fun _ _ z => z⟩ (pure ds g _ _ q0)⟩
  refine wpAny_mono (B.run.run [] s1 _ H _ I go) (fun fl s' hq => ?_) fun e s' hq => hq
  cases fl with
  | ret u =>
    obtain ⟨v, σ', H', J, rv, q⟩ := hq
    exact ⟨v, H', J.os, J.bare, J.base, J.hok, rv, q⟩
  | next =>
    obtain ⟨σ', H', J, q⟩ := hq
    exact ⟨.non, H', J.os, J.bare, J.base, J.hok, rfl, q⟩
  | brk => obtain ⟨_, _, _, q⟩ := hq; exact q.elim
  | cont => obtain ⟨_, _, _, q⟩ := hq; exact q.elim
end
/-- what is known of the law at the head's heap: T tells the tables: code object, table, the lambdas' name -/
structure LawT (gz : Bool) (l : PySem.W.OpenLaw) (w : World) (K : PySem.W.Frag) (k n : Nat) (x : Str) (mg : Str → Option Value) (fa : Addr) (names : List Str) : Prop where
  ex : ∃ (fd : FuncData) (S : FSpec) (T : List (Str × Addr × Addr × Str)), (∀ (s : Shared) (u : Value), BindsTo s fd ⟨[u], []⟩ [(x, u)]) ∧ (∀ p ∈ T, p.1 ∈ names ∧ PySem.W.tabIn K p.1 = some (p.2.1, p.2.2.1) ∧ K.lookup p.2.2.1 = none) ∧
    (∀ (js : List Int) (h : AH), js.length ≤ n → (∀ p ∈ T, h p.2.2.1 = some (.tab p.2.2.2)) → S [.lk (js.map D.int)] h (fun d _ => d = .bl true) (fun _ _ => False)) ∧ (T.map (·.2.2.1)).Nodup ∧
    ∀ base : Heap, K.In base → base.Ns mainGlobals mg → (∀ p ∈ T, TabB base mg p.2.1 p.2.2.1) → FnG gz l.prog w K mg base k fa fd [x] S
section
variable {P : Program} {w : World} {K : PySem.W.Frag} {mg bm : Str → Option Value} {k : Nat} {fa q : Addr} {fd : FuncData} {x : Str} {S : FSpec} {t : Shared} {us : List Value} {js : List Int} {T : List (Str × Addr × Addr × Str)}
theorem tabs_at {ob : Addr → Option AO} : ∀ {T : List (Str × Addr × Addr × Str)}, (T.map (·.2.2.1)).Nodup → ∃ h : AH, (∀ p ∈ T, h p.2.2.1 = some (.tab p.2.2.2)) ∧ ∀ b o, h b = some o → ∃ p ∈ T, b = p.2.2.1 ∧ o = .tab p.2.2.2
  | [], _ => ⟨fun _ => none, ⟨fun p hp => (nomatch hp), fun b o e => (nomatch e)⟩⟩
  | p :: T, nd => by
    rw [List.map_cons, List.nodup_cons] at nd
    obtain ⟨h, h1, h2⟩ := tabs_at (ob := ob) nd.2
    refine ⟨up h p.2.2.1 (.tab p.2.2.2), fun p' hp' => ?_, fun b o e => ?_⟩
    · rcases List.mem_cons.mp hp' with rfl | hp'
      · exact up_same
      · rw [up_ne (fun z => nd.1 (by rw [← z]; exact List.mem_map.mpr ⟨p', hp', rfl⟩))]; exact h1 _ hp'
    · by_cases c : b = p.2.2.1
      · subst c
        rw [up_same] at e
        obtain rfl := Option.some.inj e
        exact ⟨p, List.mem_cons_self, rfl, rfl⟩
      · rw [up_ne c] at e
        obtain ⟨p', hp', z⟩ := h2 b o e
        exact ⟨p', List.mem_cons_of_mem _ hp', z⟩
theorem dl_callT (KX : K.In t.heap) (n1 : t.heap.Ns mainGlobals mg) (n2 : t.heap.Ns builtinsNs bm) (bb : ∀ y : Str, y ≠ "__name__" → bm y = bootBuiltins y) (nl : t.heap.NoLimit) (ng : t.gens = #[])
    (hT : ∀ p ∈ T, t.heap.get? p.2.2.1 = some { cls := .none, data := .fields #[] }) (nT : ∀ p ∈ T, K.lookup p.2.2.1 = none) (hC : ∀ p ∈ T, PySem.W.CodeHd t.heap p.2.1 p.2.2.1) (nd : (T.map (·.2.2.1)).Nodup)
    (hbm : ∃ (bm : Addr) (ob : Obj), mg "__builtins__" = some (.ref bm) ∧ bm ≠ builtinsNs ∧ t.heap.get? bm = some ob ∧ ob.cls = .type "module" ∧ ob.dict = some builtinsNs ∧ ob.data = .plain)
    (hq : t.heap.get? q = some { cls := .type "list", data := .seq us.toArray }) (ia : IntsAre us js) (lj : js.length ≤ sizeLine) (rm : Room k callerA)
    (G : ∀ base : Heap, K.In base → base.Ns mainGlobals mg → (∀ p ∈ T, TabB base mg p.2.1 p.2.2.1) → FnG gz P w K mg base k fa fd [x] S) (hb : ∀ (s : Shared) (u : Value), BindsTo s fd ⟨[u], []⟩ [(x, u)])
    (hS : ∀ h : AH, (∀ p ∈ T, h p.2.2.1 = some (.tab p.2.2.2)) → S [.lk (js.map D.int)] h (fun d _ => d = .bl true) (fun _ _ => False)) :
    codeAny (model P w) callerA (.call (.ref fa) ⟨[.ref q], []⟩) (fun r s' => r = .ok (.ret (.bool true)) ∧ OldK t.heap s'.heap ∧ s'.os = t.os ∧ AllBare s'.gens) t := by
  obtain ⟨H, B⟩ := beg_of (P := P) (w := w) KX hq ia lj
  obtain ⟨h0, t1, t2⟩ := tabs_at (ob := fun _ => none) nd
  have isT : ∀ b o, h0 b = some o → t.heap.get? b = some { cls := .none, data := .fields #[] } := fun b o e => by
    obtain ⟨p, hp, rfl, _⟩ := t2 b o e
    exact hT p hp
  have qT : h0 q = none := by
    cases e : h0 q with
    | none => rfl
    | some o =>
      have z := (isT q o e).symm.trans hq
      have z2 : Data.fields #[] = Data.seq us.toArray _ := congrArg Obj.data (Option.some.inj z)
      cases z2
  have HnT : ∀ b o, h0 b = some o → H b = none := fun b o e => by
    by_cases z : H b = none
    · exact z
    · obtain rfl := B.at_ b z
      rw [qT] at e; cases e
  have G0 : ∃ H2 : Hp, (∀ b o, h0 b = some o → H2 b = some (.tbl #[])) ∧ ∀ b, h0 b = none → H2 b = H b := by
    refine ⟨fun b => match h0 b with | some _ => some (.tbl #[]) | none => H b, fun b o e => ?_, fun b e => ?_⟩
    · show (match h0 b with | some _ => some (HO.tbl #[]) | none => H b) = _
      rw [e]
    · show (match h0 b with | some _ => some (HO.tbl #[]) | none => H b) = _
      rw [e]
  obtain ⟨H2, k1, k2⟩ := G0
  have fromH : ∀ b u, H b = some u → H2 b = some u := fun b u e => by
    have z : h0 b = none := by
      cases y : h0 b with
      | none => rfl
      | some o => rw [HnT b o y] at e; cases e
    rw [k2 b z]; exact e
  have ok2 : HOk P w H2 t.heap := fun b u e => by
    cases y : h0 b with
    | some o =>
      obtain rfl := Option.some.inj ((k1 b o y).symm.trans e)
      exact isT b o y
    | none =>
      rw [k2 b y] at e
      exact (B.ok b u e).stay (fun c v _ z => z) (fun c z => fromH _ _ z) fun c xs z => fromH _ _ z
  have low : ∀ {b : Addr} {ob : Obj}, t.heap.get? b = some ob → H2 b = none → (hidT t.heap H2).get? b = some ob := fun e z => hidT_get e z
  have noD : ∀ {b : Addr} {ob : Obj}, t.heap.get? b = some ob → (∀ v n, ob.data ≠ .seq v n) → ob.data ≠ .fields #[] → H2 b = none := by
    intro b ob e d1 d2
    cases y : h0 b with
    | some o =>
      obtain rfl := Option.some.inj ((isT b o y).symm.trans e)
      exact absurd rfl d2
    | none =>
      rw [k2 b y]
      by_cases z : H b = none
      · exact z
      · obtain rfl := B.at_ b z
        obtain rfl := Option.some.inj (hq.symm.trans e)
        exact absurd rfl (d1 _ _)
  have ns : ∀ {b : Addr} {m : Str → Option Value}, t.heap.Ns b m → (hidT t.heap H2).Ns b m := fun ⟨ob, es, ep, e, d, r⟩ => ⟨ob, es, ep, low e (noD e (fun v n z => by rw [d] at z; cases z) (fun z => by rw [d] at z; cases z)), d, r⟩
  have hK : K.In (hidT t.heap H2) := fun b ob e => low (KX b ob e) (by
    cases y : h0 b with
    | some o =>
      obtain ⟨p, hp, rfl, _⟩ := t2 b o y
      rw [nT p hp] at e; cases e
    | none =>
      rw [k2 b y]
      by_cases z : H b = none
      · exact z
      · obtain rfl := B.at_ b z
        rw [B.out z] at e; cases e)
  have M : Mod K mg (hidT t.heap H2) := by
    obtain ⟨mc, l1, l2⟩ := nl
    exact ⟨hK, ns n1, ⟨bm, ns n2, bb⟩, mc, ns l1, l2⟩
  have TB : ∀ p ∈ T, TabB (hidT t.heap H2) mg p.2.1 p.2.2.1 := fun p hp => by
    have hTp := hT p hp
    refine ⟨?_, ?_, fun z => ?_⟩
    · obtain ⟨o, vs, file, tf, flags, tg, inF, text, tt, e1, r1, r2, r3, r4, r5, r6, r7, r8, r9⟩ := hC p hp
      exact ⟨o, vs, file, tf, flags, tg, inF, text, tt, low e1 (noD e1 (fun v n z => by rw [r2] at z; cases z) (fun z => by rw [r2] at z; cases z; simp at r3)), r1, r2, r3, r4, r5, r6, r7, r8, r9⟩
    · obtain ⟨bm, ob, b1, b2, b3, b4, b5, b6⟩ := hbm
      refine ⟨bm, ob, b1, b2, fun z => ?_, fun z => ?_, low b3 (noD b3 (fun v n z => by rw [b6] at z; cases z) (fun z => by rw [b6] at z; cases z)), b4, b5, b6⟩
      · obtain ⟨o, es, ep, e, hd, _⟩ := n1
        rw [z, e] at b3
        obtain rfl := Option.some.inj b3
        rw [hd] at b6; cases b6
      · rw [z, hTp] at b3
        obtain rfl := Option.some.inj b3
        cases b6
    · obtain ⟨o, es, ep, e, hd, _⟩ := n1
      rw [z, hTp] at e
      obtain rfl := Option.some.inj e
      cases hd
  have none_in : ∀ {b : Addr}, b ∉ ([] : List Addr) := fun h => by cases h
  have e0 : Env0 P w K mg (hidT t.heap H2) callerA [] t H2 := ⟨rfl, M, fun b ob e => of_hidT e, Nat.le_of_eq (hidT_size _ _), trivial, fun b h => absurd h none_in, ok2, .of_eq ng⟩
  have FG := G _ hK (ns n1) TB
  have sp : spD K S [.ref q] H2 (fun v _ => v = .bl true) (fun _ _ _ => False) := by
    refine ⟨H, _, h0, ⟨fun a o e => fromH a o e, fun b o e => ⟨HnT b o e, _, k1 b o e, ?_⟩⟩, .cons (.lk B.sq ?_) .nil, FG.mo _ _ _ _ _ _ (fun d h e => ?_) (fun _ _ z => z.elim) (hS h0 t1)⟩
    · obtain ⟨p, hp, rfl, rfl⟩ := t2 b o e
      exact ⟨#[], rfl, True.intro, fun pos cv z => by simp [codeAmong] at z⟩
    · clear hS hq ia lj B e0 t1 t2 isT qT HnT fromH ok2
      induction js with
      | nil => exact .nil
      | cons j js ih => exact .cons (.int j) ih
    · intro F' H' v _ _ r
      subst e
      cases r; rfl
  refine codeAny_mono (FG.run (args := ⟨[.ref q], []⟩) (us := [.ref q]) (vs := [.ref q]) rm (fun _ => rfl) e0 (hb t (.ref q)) (.cons rfl .nil) sp) fun r s' h => ?_
  match r, h with
  | .error e, h => obtain ⟨_, _, _, _, _, _, _, _, _, _, _, _, h⟩ := h; exact h.elim
  | .ok .next, h => exact h.elim
  | .ok .brk, h => exact h.elim
  | .ok .cont, h => exact h.elim
  | .ok (.ret u), h =>
    obtain ⟨v, H3, os, bare, un, ok3, r2, e⟩ := h
    have e : v = .bl true := e
    subst e
    obtain rfl : u = Value.bool true := r2
    have grown : ∀ b o, h0 b = some o → ∃ more : Array Value, s'.heap.get? b = some { cls := .none, data := .fields more } := fun b o y => by
      obtain ⟨more, z⟩ := un.tbls b #[] (k1 b o y)
      exact ⟨_, ok3 b _ z⟩
    have rest : ∀ b ob, h0 b = none → t.heap.get? b = some ob → s'.heap.get? b = some ob := fun b ob y e => by
      rcases B.fz b with z | ⟨o2, ys, z⟩
      · exact un.keep b ob e (by rw [k2 b y]; exact z) none_in (by simp)
      · have d1 := (B.ok b _ z).1
        have d2 := (ok3 b _ (un.frzs b o2 _ (fromH _ _ z))).1
        rw [d1] at e
        obtain rfl := Option.some.inj e
        exact d2
    refine ⟨rfl, ⟨fun b o e => ?_, fun b o e => ?_⟩, os, bare⟩
    · cases y : h0 b with
      | none => exact .inl (rest b o y e)
      | some u =>
        obtain ⟨more, hm⟩ := grown b u y
        obtain ⟨p, hp, rfl, _⟩ := t2 b u y
        have e2 := hT p hp
        rw [e] at e2
        obtain rfl := Option.some.inj e2
        exact .inr (.inl ⟨((hC p hp).tab (hT p hp)).isCodeTable, rfl, #[], more, rfl, by rw [Array.empty_append]; exact hm⟩)
    · cases y : h0 b with
      | none => exact ⟨o, rest b o y e⟩
      | some u =>
        obtain ⟨more, hm⟩ := grown b u y
        exact ⟨_, hm⟩
end
end DL
namespace Hx
open PySem PySem.Spec PyProof.Rows L2 DL
/-- .. where defs make lambdas -/
theorem walkXT {gz : Bool} {l : PySem.W.OpenLaw} {n k : Nat} {p : Program} {loose : List Str} {XP : (Str → Option Value) → Heap → Prop} {YP : World → Heap → Prop} {d : DefRec} {x : Str} {names : List Str}
    (hn : l.most = some n) (hz : n ≤ sizeLine) (hd : d.params.defaults = []) (rm : Room k callerA) (hr : (names.all fun x => ((recsOf p).find? fun e => e.name == x).isSome) = true)
    (G : ∀ (w : World) (mg : Str → Option Value) (fa : Addr) (h : Heap), YP w h → h.Ns mainGlobals mg → mg d.name = some (.ref fa) → ∃ K : Fr, K.In h ∧ LawT gz l w K k n x mg fa names) :
    PySem.W.WalkO p loose XP YP l.row.toRowW d [] (fun f vs => PySem.call f vs) := by
  refine Att.attach_call hn hd fun w t0 t mg bm fa ob pm cd doc q us js Gr Y ho hdat hcd hmg hq ia lj ng => ?_
  obtain ⟨K, KX, L⟩ := G w mg fa _ Y Gr.T.g hmg
  obtain ⟨fd, S, T, hb, hT, hS, nd, hF⟩ := L.ex
  have tabs : ∀ p' ∈ T, PySem.W.CodeHd t.heap p'.2.1 p'.2.2.1 ∧ t.heap.get? p'.2.2.1 = some { cls := .none, data := .fields #[] } := fun p' hp => by
    obtain ⟨m, ht, _⟩ := hT p' hp
    obtain ⟨dr, hdr⟩ := Option.isSome_iff_exists.mp (List.all_eq_true.mp hr _ m)
    exact PySem.W.tab_of Gr.T KX hdr ht
  exact dl_callT KX Gr.T.g Gr.T.b Gr.T.builtins Gr.T.nolimit ng (fun p hp => (tabs p hp).2) (fun p hp => (hT p hp).2.2) (fun p hp => (tabs p hp).1) nd Gr.T.bmain hq ia (Nat.le_trans lj hz) rm hF hb (fun h hh => hS js h lj hh)
end Hx
namespace Hx
open PySem PySem.Spec PyProof.Rows L2 DL HandSHeadRun
/-- two looks at one run -/
theorem run_join {r : PySem.W.OpenRow} {q : Program} {N : Nat} {no : List Addr} {t1 t2 : List (List (Fr → Bool))} {fn : List FnX} {M : Nat} {loose : List PySem.Str} {w : World}
    (h1 : RunEq r q (hookX N no t1 []) (obT N no t1 []) M loose w) (h2 : RunEq r q (hookX N no t2 fn) (obT N no t2 fn) M loose w) : RunEq r q (hookX N no (t1 ++ t2) fn) (obT N no (t1 ++ t2) fn) M loose w := by
  intro os
  have a := h1 os
  have b := h2 os
  revert a b
  generalize endF _ _ _ _ _ = e
  cases e with
  | none => intro a; cases a
  | some s =>
    intro a b
    have a := Option.some.inj a
    have b := Option.some.inj b
    have a3 := congrArg (fun x => x.2.2) a
    have b3 := congrArg (fun x => x.2.2) b
    have b1 := congrArg (fun x => x.1) b
    have b2 := congrArg (fun x => x.2.1) b
    dsimp only at a3 b3 b1 b2
    refine congrArg some (Prod.ext b1 (Prod.ext b2 ?_))
    clear a b b1 b2
    dsimp only
    revert a3 b3
    unfold obT obX
    generalize frX N no (getT s) = K
    intro a3 b3
    have a4 := congrArg Prod.fst a3
    have b4 := congrArg Prod.fst b3
    have b5 := congrArg Prod.snd b3
    dsimp only at a4 b4 b5 ⊢
    rw [List.all_append, a4, b4, b5]
    rfl
end Hx
namespace DL
open PySem PySem.Spec L2 C8
section
variable {X : Cx} {E : XK} {k : Nat} {a b c e : Expr} {wa wb wc : WE} {pos : Pos} {op op' : CmpOp} {r r' : R2} {f g : D → D → AH → KD → Prop}
theorem to_chain (ok : OpD X.K r f) (ok' : OpD X.K r' g) (ha : AE X E a wa) (hb : AE X E b wb) (hc : AE X E c wc) {σ : L2.St} {H : Hp} {Q : VK} (h : tE X.K E (wChain f g wa wb wc) σ H Q) : tChain r r' (tE X.K E wa) (tE X.K E wb) (tE X.K E wc) σ H Q := by
  obtain ⟨F, ρ, g0, S, R, q⟩ := h
  refine ⟨F, ρ, g0, S, R, ha.mo _ _ _ _ _ _ (fun x h1 hx => ?_) (fun _ _ z => z) q⟩
  intro F1 H1 vx e1 S1 rx
  refine ⟨F1, ρ, h1, S1, R.ext e1, hb.mo _ _ _ _ _ _ (fun y h2 hf => ?_) (fun _ _ z => LX.ext e1 z) hx⟩
  intro F2 H2 vy e2 S2 ry
  refine ok.to S2 (rx.ext e2) ry (ok.mo (fun z h3 hz => ?_) hf)
  intro F3 H3 v3 e3 S3 r3
  split at hz
  · rename_i kk
    cases r3
    refine ⟨kk, rfl, ?_⟩
    split at hz
    · rename_i ck
      rw [if_pos ck]
      refine ⟨F3, ρ, h3, S3, R.ext (e1.trans (e2.trans e3)), hc.mo _ _ _ _ _ _ (fun u h4 hg => ?_) (fun _ _ z => LX.ext (e1.trans (e2.trans e3)) z) hz⟩
      intro F4 H4 vu e4 S4 ru
      exact ok'.to S4 (ry.ext (e3.trans e4)) ru (ok'.mo (fun _ _ z => LQ.ext (e1.trans (e2.trans (e3.trans e4))) z) hg)
    · rename_i ck
      rw [if_neg ck]
      exact hz F3 H3 _ (e1.trans (e2.trans e3)) S3 (.bl _)
  · exact hz.elim
theorem ae_chain2 (ok : OpD X.K r f) (ok' : OpD X.K r' g) (ho : OpR X (compareOp op) r) (ho' : OpR X (compareOp op') r') (ha : AE X E a wa) (hb : AE X E b wb) (hc : AE X E c wc)
    (hm : lastMarks [op, op'] [b, c] = false := by with_unfolding_all rfl) : AE X E (.Compare a [op, op'] [b, c] pos) (wChain f g wa wb wc) :=
  ⟨PE.imp (pe_chain ho ho' ha.run hb.run hc.run hm) fun σ H Q h => to_chain ok ok' ha hb hc h, mo_chain ok.mo ok'.mo ha.mo hb.mo hc.mo⟩
end
/-! ### the built-in names -/
theorem bb_len : bootBuiltins "len" = some (.builtin "len") := by decide +kernel
theorem bb_abs : bootBuiltins "abs" = some (.builtin "abs") := by decide +kernel
theorem bb_max : bootBuiltins "max" = some (.builtin "max") := by decide +kernel
theorem bb_min : bootBuiltins "min" = some (.builtin "min") := by decide +kernel
theorem bb_sum : bootBuiltins "sum" = some (.builtin "sum") := by decide +kernel
theorem bb_repr : bootBuiltins "repr" = some (.builtin "repr") := by decide +kernel
theorem bb_isinstance : bootBuiltins "isinstance" = some (.builtin "isinstance") := by decide +kernel
theorem bb_int : bootBuiltins "int" = some (.type "int") := by decide +kernel
theorem bb_bool : bootBuiltins "bool" = some (.type "bool") := by decide +kernel
theorem bb_list : bootBuiltins "list" = some (.type "list") := by decide +kernel
theorem bb_tuple : bootBuiltins "tuple" = some (.type "tuple") := by decide +kernel
/-- a name of the module that holds an int -/
theorem cst_int {K : PySem.W.Frag} {mg : Str → Option Value} {x : Str} {i : Int} {t : Tok} (h : mg x = some (.int i t)) : Cst K mg x (.int i) := ⟨⟨.int i, _, h, ⟨t, rfl⟩, fun _ => .int i⟩⟩
end DL
namespace PySem.W
open PySem PySem.Spec PySem.Calls PyProof.Rows
end PySem.W
namespace L2
open PySem PySem.Spec PyProof.Rows
end L2
namespace DL
open PySem PySem.Spec L2 C8
end DL
namespace DL
open PySem PySem.Spec L2 C8
/-! ### a tuple of texts that a name of the module holds -/
end DL
namespace K26
open PySem PySem.Spec L2 DL PyProof.Rows
/-! ### the text by places (printed by gen4.py) -/
def top (i : Nat) : Stmt := PySem.Challenge.pw_forkecho_k26_ledgers_added_and_moved.main.body.getD i (.Pass ⟨0, 0, 0, 0⟩)
abbrev s_is_integer : Stmt := top 31
abbrev s_is_between : Stmt := top 32
abbrev s_need_capacity : Stmt := top 33
abbrev s_is_row : Stmt := top 36
abbrev s_Ledger___init__ : Stmt := inClass (top 37) 0
abbrev s_Ledger_rows : Stmt := inClass (top 37) 1
abbrev s_Ledger_greatest : Stmt := inClass (top 37) 2
abbrev s_Ledger___len__ : Stmt := inClass (top 37) 6
abbrev s_Ledger___add__ : Stmt := inClass (top 37) 7
abbrev s_Ledger___neg__ : Stmt := inClass (top 37) 8
abbrev s_Ledger___sub__ : Stmt := inClass (top 37) 9
abbrev s_Ledger___mul__ : Stmt := inClass (top 37) 10
abbrev s_Ledger_moved : Stmt := inClass (top 37) 11
abbrev s_Ledger_from_offset : Stmt := inClass (top 37) 12
abbrev s_Ledger_sum_at : Stmt := inClass (top 37) 14
abbrev s_Ledger___call__ : Stmt := inClass (top 37) 15
abbrev s_Ledger___eq__ : Stmt := inClass (top 37) 16
abbrev s__law_pen : Stmt := top 39
abbrev s__law_draw : Stmt := top 40
abbrev s__law_word : Stmt := top 41
abbrev s__law_field : Stmt := top 42
abbrev s__law_more_field : Stmt := top 43
abbrev s__law_heard : Stmt := top 44
abbrev s__law_offset : Stmt := top 45
abbrev s__law_amount : Stmt := top 46
abbrev s__law_rows : Stmt := top 47
abbrev s__law_sums : Stmt := top 48
abbrev s__law_ledger : Stmt := top 49
abbrev s__law_moved_right : Stmt := top 50
abbrev s__law_from_right : Stmt := top 51
abbrev s__law_capacity : Stmt := top 52
abbrev s__law_no_capacity : Stmt := top 53
abbrev s__law_due : Stmt := top 54
abbrev s__law_called_right : Stmt := top 55
abbrev s_law : Stmt := top 56
abbrev s_InvalidCapacity___init__ : Stmt := inClass (top 6) 0
abbrev s_TooLong___init__ : Stmt := inClass (top 19) 0
abbrev ck_0 (K : Hx.Fr) : Bool := decide (PySem.W.nsIn K mainGlobals "Ledger" = some (some (.ref (Hx.gl K "Ledger"))))
abbrev ck_1 (K : Hx.Fr) : Bool := decide (PySem.W.plainGet K (Hx.gl K "Ledger") Str.empty = true)
abbrev ck_2 (K : Hx.Fr) : Bool := decide (PySem.W.hasDictIn K (Hx.gl K "Ledger") = true)
abbrev ck_3 (K : Hx.Fr) : Bool := decide (PySem.W.plainOver K (Hx.gl K "Ledger") = true)
abbrev ck_4 (K : Hx.Fr) : Bool := decide (PySem.W.findIn K (.ref (Hx.gl K "Ledger")) "__setattr__" = some (some (.builtin "object.__setattr__")))
abbrev ck_5 (K : Hx.Fr) : Bool := decide (PySem.W.makesIn K (Hx.gl K "Ledger") = true)
abbrev ck_6 (K : Hx.Fr) : Bool := decide (PySem.W.keepIn K (.ref (Hx.gl K "Ledger")) = true)
abbrev ck_7 (K : Hx.Fr) : Bool := decide (PySem.W.selfFirst K (Hx.gl K "Ledger") = true)
abbrev ck_8 (K : Hx.Fr) : Bool := decide (PySem.W.findIn K (.ref (Hx.gl K "Ledger")) "amounts" = some none)
abbrev ck_9 (K : Hx.Fr) : Bool := decide (PySem.W.mroIn K (Hx.gl K "Ledger") (.type "object") = some true)
abbrev ck_10 (K : Hx.Fr) : Bool := decide (PySem.W.findIn K (.ref (Hx.gl K "Ledger")) "__ne__" = some (some (.builtin "object.__ne__")))
abbrev ck_11 (K : Hx.Fr) : Bool := decide (PySem.W.findIn K (.ref (Hx.gl K "Ledger")) "__bool__" = some none)
abbrev ck_12 (K : Hx.Fr) : Bool := decide (PySem.W.nsIn K mainGlobals "AbsentError" = some (some (.ref (Hx.gl K "AbsentError"))))
abbrev ck_13 (K : Hx.Fr) : Bool := decide (PySem.W.nsIn K mainGlobals "Contradiction" = some (some (.ref (Hx.gl K "Contradiction"))))
abbrev ck_14 (K : Hx.Fr) : Bool := decide (PySem.W.nsIn K mainGlobals "DifferentModes" = some (some (.ref (Hx.gl K "DifferentModes"))))
abbrev ck_15 (K : Hx.Fr) : Bool := decide (PySem.W.nsIn K mainGlobals "EchoError" = some (some (.ref (Hx.gl K "EchoError"))))
abbrev ck_16 (K : Hx.Fr) : Bool := decide (PySem.W.nsIn K mainGlobals "Finished" = some (some (.ref (Hx.gl K "Finished"))))
abbrev ck_17 (K : Hx.Fr) : Bool := decide (PySem.W.nsIn K mainGlobals "Full" = some (some (.ref (Hx.gl K "Full"))))
abbrev ck_18 (K : Hx.Fr) : Bool := decide (PySem.W.nsIn K mainGlobals "InvalidAccount" = some (some (.ref (Hx.gl K "InvalidAccount"))))
abbrev ck_19 (K : Hx.Fr) : Bool := decide (PySem.W.nsIn K mainGlobals "InvalidBound" = some (some (.ref (Hx.gl K "InvalidBound"))))
abbrev ck_20 (K : Hx.Fr) : Bool := decide (PySem.W.nsIn K mainGlobals "InvalidCapacity" = some (some (.ref (Hx.gl K "InvalidCapacity"))))
abbrev ck_21 (K : Hx.Fr) : Bool := decide (PySem.W.nsIn K mainGlobals "InvalidMode" = some (some (.ref (Hx.gl K "InvalidMode"))))
abbrev ck_22 (K : Hx.Fr) : Bool := decide (PySem.W.nsIn K mainGlobals "InvalidNumber" = some (some (.ref (Hx.gl K "InvalidNumber"))))
abbrev ck_23 (K : Hx.Fr) : Bool := decide (PySem.W.nsIn K mainGlobals "InvalidProgram" = some (some (.ref (Hx.gl K "InvalidProgram"))))
abbrev ck_24 (K : Hx.Fr) : Bool := decide (PySem.W.nsIn K mainGlobals "InvalidReading" = some (some (.ref (Hx.gl K "InvalidReading"))))
abbrev ck_25 (K : Hx.Fr) : Bool := decide (PySem.W.nsIn K mainGlobals "InvalidRow" = some (some (.ref (Hx.gl K "InvalidRow"))))
abbrev ck_26 (K : Hx.Fr) : Bool := decide (PySem.W.nsIn K mainGlobals "InvalidTable" = some (some (.ref (Hx.gl K "InvalidTable"))))
abbrev ck_27 (K : Hx.Fr) : Bool := decide (PySem.W.nsIn K mainGlobals "InvalidText" = some (some (.ref (Hx.gl K "InvalidText"))))
abbrev ck_28 (K : Hx.Fr) : Bool := decide (PySem.W.nsIn K mainGlobals "Lossy" = some (some (.ref (Hx.gl K "Lossy"))))
abbrev ck_29 (K : Hx.Fr) : Bool := decide (PySem.W.nsIn K mainGlobals "NoName" = some (some (.ref (Hx.gl K "NoName"))))
abbrev ck_30 (K : Hx.Fr) : Bool := decide (PySem.W.nsIn K mainGlobals "NoPlace" = some (some (.ref (Hx.gl K "NoPlace"))))
abbrev ck_31 (K : Hx.Fr) : Bool := decide (PySem.W.nsIn K mainGlobals "NoPoint" = some (some (.ref (Hx.gl K "NoPoint"))))
abbrev ck_32 (K : Hx.Fr) : Bool := decide (PySem.W.nsIn K mainGlobals "NoReading" = some (some (.ref (Hx.gl K "NoReading"))))
abbrev ck_33 (K : Hx.Fr) : Bool := decide (PySem.W.nsIn K mainGlobals "NothingToUndo" = some (some (.ref (Hx.gl K "NothingToUndo"))))
abbrev ck_34 (K : Hx.Fr) : Bool := decide (PySem.W.nsIn K mainGlobals "SizeError" = some (some (.ref (Hx.gl K "SizeError"))))
abbrev ck_35 (K : Hx.Fr) : Bool := decide (PySem.W.nsIn K mainGlobals "TooLarge" = some (some (.ref (Hx.gl K "TooLarge"))))
abbrev ck_36 (K : Hx.Fr) : Bool := decide (PySem.W.nsIn K mainGlobals "TooLong" = some (some (.ref (Hx.gl K "TooLong"))))
abbrev ck_37 (K : Hx.Fr) : Bool := decide (PySem.W.nsIn K mainGlobals "TooManyProcesses" = some (some (.ref (Hx.gl K "TooManyProcesses"))))
abbrev ck_38 (K : Hx.Fr) : Bool := decide (PySem.W.nsIn K mainGlobals "UnknownCommand" = some (some (.ref (Hx.gl K "UnknownCommand"))))
abbrev ck_39 (K : Hx.Fr) : Bool := Hx.xcOk K (Hx.gl K "InvalidCapacity") "ValueError.__new__"
abbrev ck_40 (K : Hx.Fr) : Bool := decide (PySem.W.excTail [.type "ValueError", .type "Exception", .type "BaseException", .type "object"] ((Hx.cdOf K (Hx.gl K "InvalidCapacity")).mro.tail) = true)
abbrev ck_41 (K : Hx.Fr) : Bool := decide (PySem.W.findIn K (.ref (Hx.gl K "InvalidCapacity")) "__setattr__" = some (some (.builtin "object.__setattr__")))
abbrev ck_42 (K : Hx.Fr) : Bool := decide (PySem.W.findIn K (.ref (Hx.gl K "InvalidCapacity")) "__init__" = some (some (.ref (Hx.me K (Hx.gl K "InvalidCapacity") "__init__"))))
abbrev ck_43 (K : Hx.Fr) : Bool := decide (PySem.W.typeIn K (.ref (Hx.me K (Hx.gl K "InvalidCapacity") "__init__")) = some (.type "function"))
abbrev ck_44 (K : Hx.Fr) : Bool := decide (PySem.W.findIn K (.ref (Hx.gl K "InvalidCapacity")) "value" = some none)
abbrev ck_45 (K : Hx.Fr) : Bool := Hx.xcOk K (Hx.gl K "TooLong") "OverflowError.__new__"
abbrev ck_46 (K : Hx.Fr) : Bool := decide (PySem.W.excTail [.type "OverflowError", .type "ArithmeticError", .type "Exception", .type "BaseException", .type "object"] ((Hx.cdOf K (Hx.gl K "TooLong")).mro.tail) = true)
abbrev ck_47 (K : Hx.Fr) : Bool := decide (PySem.W.findIn K (.ref (Hx.gl K "TooLong")) "__setattr__" = some (some (.builtin "object.__setattr__")))
abbrev ck_48 (K : Hx.Fr) : Bool := decide (PySem.W.findIn K (.ref (Hx.gl K "TooLong")) "__init__" = some (some (.ref (Hx.me K (Hx.gl K "TooLong") "__init__"))))
abbrev ck_49 (K : Hx.Fr) : Bool := decide (PySem.W.typeIn K (.ref (Hx.me K (Hx.gl K "TooLong") "__init__")) = some (.type "function"))
abbrev ck_50 (K : Hx.Fr) : Bool := decide (PySem.W.findIn K (.ref (Hx.gl K "TooLong")) "length" = some none)
abbrev ck_51 (K : Hx.Fr) : Bool := decide (PySem.W.subIn K (.ref (Hx.gl K "InvalidCapacity")) (.type "BaseException") = some true)
abbrev ck_52 (K : Hx.Fr) : Bool := decide (PySem.W.subIn K (.ref (Hx.gl K "TooLong")) (.type "BaseException") = some true)
abbrev ck_53 (K : Hx.Fr) : Bool := decide (PySem.W.typeIn K (.ref (Hx.gl K "InvalidCapacity")) = some (.type "type"))
abbrev ck_54 (K : Hx.Fr) : Bool := decide (PySem.W.keepIn K (.ref (Hx.gl K "InvalidCapacity")) = true)
abbrev ck_55 (K : Hx.Fr) : Bool := decide (PySem.W.typeIn K (.ref (Hx.gl K "TooLong")) = some (.type "type"))
abbrev ck_56 (K : Hx.Fr) : Bool := decide (PySem.W.keepIn K (.ref (Hx.gl K "TooLong")) = true)
abbrev ck_57 (K : Hx.Fr) : Bool := decide (PySem.W.specialIn K (.builtin "object.__class__") "__get__" = some (some (.builtin "getset_descriptor.__get__")))
abbrev ck_58 (K : Hx.Fr) : Bool := decide (PySem.W.takesIn K (.builtin "object.__class__") = some true)
abbrev ck_59 (K : Hx.Fr) : Bool := decide (PySem.W.subIn K (.ref (Hx.gl K "EchoError")) (.type "BaseException") = some true)
abbrev ck_60 (K : Hx.Fr) : Bool := decide (PySem.W.hasDictIn K (Hx.gl K "EchoError") = true)
abbrev ck_61 (K : Hx.Fr) : Bool := decide (PySem.W.typeIn K (.ref (Hx.gl K "EchoError")) = some (.type "type"))
abbrev ck_62 (K : Hx.Fr) : Bool := decide (PySem.W.subIn K (.ref (Hx.gl K "SizeError")) (.type "BaseException") = some true)
abbrev ck_63 (K : Hx.Fr) : Bool := decide (PySem.W.hasDictIn K (Hx.gl K "SizeError") = true)
abbrev ck_64 (K : Hx.Fr) : Bool := decide (PySem.W.typeIn K (.ref (Hx.gl K "SizeError")) = some (.type "type"))
abbrev ck_65 (K : Hx.Fr) : Bool := decide (PySem.W.subIn K (.ref (Hx.gl K "AbsentError")) (.type "BaseException") = some true)
abbrev ck_66 (K : Hx.Fr) : Bool := decide (PySem.W.hasDictIn K (Hx.gl K "AbsentError") = true)
abbrev ck_67 (K : Hx.Fr) : Bool := decide (PySem.W.typeIn K (.ref (Hx.gl K "AbsentError")) = some (.type "type"))
abbrev ck_68 (K : Hx.Fr) : Bool := decide (PySem.W.findIn K (.ref (Hx.gl K "InvalidCapacity")) "__getattribute__" = some (some (.builtin "BaseException.__getattribute__")))
abbrev ck_69 (K : Hx.Fr) : Bool := decide (PySem.W.findIn K (.ref (Hx.gl K "InvalidCapacity")) "__getattr__" = some none)
abbrev ck_70 (K : Hx.Fr) : Bool := decide (PySem.W.hasDictIn K (Hx.gl K "InvalidCapacity") = true)
abbrev ck_71 (K : Hx.Fr) : Bool := decide (PySem.W.findIn K (.ref (Hx.gl K "InvalidCapacity")) "__class__" = some (some (.builtin "object.__class__")))
abbrev ck_72 (K : Hx.Fr) : Bool := decide (PySem.W.mroIn K (Hx.gl K "InvalidCapacity") (.type "object") = some true)
abbrev ck_73 (K : Hx.Fr) : Bool := decide (PySem.W.subIn K (.ref (Hx.gl K "InvalidCapacity")) (.ref (Hx.gl K "EchoError")) = some true)
abbrev ck_74 (K : Hx.Fr) : Bool := decide (PySem.W.subIn K (.ref (Hx.gl K "InvalidCapacity")) (.ref (Hx.gl K "SizeError")) = some false)
abbrev ck_75 (K : Hx.Fr) : Bool := decide (PySem.W.subIn K (.ref (Hx.gl K "InvalidCapacity")) (.ref (Hx.gl K "AbsentError")) = some false)
abbrev ck_76 (K : Hx.Fr) : Bool := decide (PySem.W.kitOne K (.ref (Hx.gl K "InvalidCapacity")) (.ref (Hx.gl K "AbsentError")) = some false)
abbrev ck_77 (K : Hx.Fr) : Bool := decide (PySem.W.kitOne K (.ref (Hx.gl K "InvalidCapacity")) (.ref (Hx.gl K "Contradiction")) = some false)
abbrev ck_78 (K : Hx.Fr) : Bool := decide (PySem.W.kitOne K (.ref (Hx.gl K "InvalidCapacity")) (.ref (Hx.gl K "DifferentModes")) = some false)
abbrev ck_79 (K : Hx.Fr) : Bool := decide (PySem.W.kitOne K (.ref (Hx.gl K "InvalidCapacity")) (.ref (Hx.gl K "EchoError")) = some true)
abbrev ck_80 (K : Hx.Fr) : Bool := decide (PySem.W.kitOne K (.ref (Hx.gl K "InvalidCapacity")) (.ref (Hx.gl K "Finished")) = some false)
abbrev ck_81 (K : Hx.Fr) : Bool := decide (PySem.W.kitOne K (.ref (Hx.gl K "InvalidCapacity")) (.ref (Hx.gl K "Full")) = some false)
abbrev ck_82 (K : Hx.Fr) : Bool := decide (PySem.W.kitOne K (.ref (Hx.gl K "InvalidCapacity")) (.ref (Hx.gl K "InvalidAccount")) = some false)
abbrev ck_83 (K : Hx.Fr) : Bool := decide (PySem.W.kitOne K (.ref (Hx.gl K "InvalidCapacity")) (.ref (Hx.gl K "InvalidBound")) = some false)
abbrev ck_84 (K : Hx.Fr) : Bool := decide (PySem.W.kitOne K (.ref (Hx.gl K "InvalidCapacity")) (.ref (Hx.gl K "InvalidCapacity")) = some true)
abbrev ck_85 (K : Hx.Fr) : Bool := decide (PySem.W.kitOne K (.ref (Hx.gl K "InvalidCapacity")) (.ref (Hx.gl K "InvalidMode")) = some false)
abbrev ck_86 (K : Hx.Fr) : Bool := decide (PySem.W.kitOne K (.ref (Hx.gl K "InvalidCapacity")) (.ref (Hx.gl K "InvalidNumber")) = some false)
abbrev ck_87 (K : Hx.Fr) : Bool := decide (PySem.W.kitOne K (.ref (Hx.gl K "InvalidCapacity")) (.ref (Hx.gl K "InvalidProgram")) = some false)
abbrev ck_88 (K : Hx.Fr) : Bool := decide (PySem.W.kitOne K (.ref (Hx.gl K "InvalidCapacity")) (.ref (Hx.gl K "InvalidReading")) = some false)
abbrev ck_89 (K : Hx.Fr) : Bool := decide (PySem.W.kitOne K (.ref (Hx.gl K "InvalidCapacity")) (.ref (Hx.gl K "InvalidRow")) = some false)
abbrev ck_90 (K : Hx.Fr) : Bool := decide (PySem.W.kitOne K (.ref (Hx.gl K "InvalidCapacity")) (.ref (Hx.gl K "InvalidTable")) = some false)
abbrev ck_91 (K : Hx.Fr) : Bool := decide (PySem.W.kitOne K (.ref (Hx.gl K "InvalidCapacity")) (.ref (Hx.gl K "InvalidText")) = some false)
abbrev ck_92 (K : Hx.Fr) : Bool := decide (PySem.W.kitOne K (.ref (Hx.gl K "InvalidCapacity")) (.type "LookupError") = some false)
abbrev ck_93 (K : Hx.Fr) : Bool := decide (PySem.W.kitOne K (.ref (Hx.gl K "InvalidCapacity")) (.ref (Hx.gl K "Lossy")) = some false)
abbrev ck_94 (K : Hx.Fr) : Bool := decide (PySem.W.kitOne K (.ref (Hx.gl K "InvalidCapacity")) (.ref (Hx.gl K "NoName")) = some false)
abbrev ck_95 (K : Hx.Fr) : Bool := decide (PySem.W.kitOne K (.ref (Hx.gl K "InvalidCapacity")) (.ref (Hx.gl K "NoPlace")) = some false)
abbrev ck_96 (K : Hx.Fr) : Bool := decide (PySem.W.kitOne K (.ref (Hx.gl K "InvalidCapacity")) (.ref (Hx.gl K "NoPoint")) = some false)
abbrev ck_97 (K : Hx.Fr) : Bool := decide (PySem.W.kitOne K (.ref (Hx.gl K "InvalidCapacity")) (.ref (Hx.gl K "NoReading")) = some false)
abbrev ck_98 (K : Hx.Fr) : Bool := decide (PySem.W.kitOne K (.ref (Hx.gl K "InvalidCapacity")) (.ref (Hx.gl K "NothingToUndo")) = some false)
abbrev ck_99 (K : Hx.Fr) : Bool := decide (PySem.W.kitOne K (.ref (Hx.gl K "InvalidCapacity")) (.type "OverflowError") = some false)
abbrev ck_100 (K : Hx.Fr) : Bool := decide (PySem.W.kitOne K (.ref (Hx.gl K "InvalidCapacity")) (.ref (Hx.gl K "SizeError")) = some false)
abbrev ck_101 (K : Hx.Fr) : Bool := decide (PySem.W.kitOne K (.ref (Hx.gl K "InvalidCapacity")) (.ref (Hx.gl K "TooLarge")) = some false)
abbrev ck_102 (K : Hx.Fr) : Bool := decide (PySem.W.kitOne K (.ref (Hx.gl K "InvalidCapacity")) (.ref (Hx.gl K "TooLong")) = some false)
abbrev ck_103 (K : Hx.Fr) : Bool := decide (PySem.W.kitOne K (.ref (Hx.gl K "InvalidCapacity")) (.ref (Hx.gl K "TooManyProcesses")) = some false)
abbrev ck_104 (K : Hx.Fr) : Bool := decide (PySem.W.kitOne K (.ref (Hx.gl K "InvalidCapacity")) (.ref (Hx.gl K "UnknownCommand")) = some false)
abbrev ck_105 (K : Hx.Fr) : Bool := decide (PySem.W.kitOne K (.ref (Hx.gl K "InvalidCapacity")) (.type "ValueError") = some true)
abbrev ck_106 (K : Hx.Fr) : Bool := decide (PySem.W.findIn K (.ref (Hx.gl K "InvalidCapacity")) "value" = some none)
abbrev ck_107 (K : Hx.Fr) : Bool := decide (PySem.W.findIn K (.ref (Hx.gl K "TooLong")) "__getattribute__" = some (some (.builtin "BaseException.__getattribute__")))
abbrev ck_108 (K : Hx.Fr) : Bool := decide (PySem.W.findIn K (.ref (Hx.gl K "TooLong")) "__getattr__" = some none)
abbrev ck_109 (K : Hx.Fr) : Bool := decide (PySem.W.hasDictIn K (Hx.gl K "TooLong") = true)
abbrev ck_110 (K : Hx.Fr) : Bool := decide (PySem.W.findIn K (.ref (Hx.gl K "TooLong")) "__class__" = some (some (.builtin "object.__class__")))
abbrev ck_111 (K : Hx.Fr) : Bool := decide (PySem.W.mroIn K (Hx.gl K "TooLong") (.type "object") = some true)
abbrev ck_112 (K : Hx.Fr) : Bool := decide (PySem.W.subIn K (.ref (Hx.gl K "TooLong")) (.ref (Hx.gl K "EchoError")) = some false)
abbrev ck_113 (K : Hx.Fr) : Bool := decide (PySem.W.subIn K (.ref (Hx.gl K "TooLong")) (.ref (Hx.gl K "SizeError")) = some true)
abbrev ck_114 (K : Hx.Fr) : Bool := decide (PySem.W.subIn K (.ref (Hx.gl K "TooLong")) (.ref (Hx.gl K "AbsentError")) = some false)
abbrev ck_115 (K : Hx.Fr) : Bool := decide (PySem.W.kitOne K (.ref (Hx.gl K "TooLong")) (.ref (Hx.gl K "AbsentError")) = some false)
abbrev ck_116 (K : Hx.Fr) : Bool := decide (PySem.W.kitOne K (.ref (Hx.gl K "TooLong")) (.ref (Hx.gl K "Contradiction")) = some false)
abbrev ck_117 (K : Hx.Fr) : Bool := decide (PySem.W.kitOne K (.ref (Hx.gl K "TooLong")) (.ref (Hx.gl K "DifferentModes")) = some false)
abbrev ck_118 (K : Hx.Fr) : Bool := decide (PySem.W.kitOne K (.ref (Hx.gl K "TooLong")) (.ref (Hx.gl K "EchoError")) = some false)
abbrev ck_119 (K : Hx.Fr) : Bool := decide (PySem.W.kitOne K (.ref (Hx.gl K "TooLong")) (.ref (Hx.gl K "Finished")) = some false)
abbrev ck_120 (K : Hx.Fr) : Bool := decide (PySem.W.kitOne K (.ref (Hx.gl K "TooLong")) (.ref (Hx.gl K "Full")) = some false)
abbrev ck_121 (K : Hx.Fr) : Bool := decide (PySem.W.kitOne K (.ref (Hx.gl K "TooLong")) (.ref (Hx.gl K "InvalidAccount")) = some false)
abbrev ck_122 (K : Hx.Fr) : Bool := decide (PySem.W.kitOne K (.ref (Hx.gl K "TooLong")) (.ref (Hx.gl K "InvalidBound")) = some false)
abbrev ck_123 (K : Hx.Fr) : Bool := decide (PySem.W.kitOne K (.ref (Hx.gl K "TooLong")) (.ref (Hx.gl K "InvalidCapacity")) = some false)
abbrev ck_124 (K : Hx.Fr) : Bool := decide (PySem.W.kitOne K (.ref (Hx.gl K "TooLong")) (.ref (Hx.gl K "InvalidMode")) = some false)
abbrev ck_125 (K : Hx.Fr) : Bool := decide (PySem.W.kitOne K (.ref (Hx.gl K "TooLong")) (.ref (Hx.gl K "InvalidNumber")) = some false)
abbrev ck_126 (K : Hx.Fr) : Bool := decide (PySem.W.kitOne K (.ref (Hx.gl K "TooLong")) (.ref (Hx.gl K "InvalidProgram")) = some false)
abbrev ck_127 (K : Hx.Fr) : Bool := decide (PySem.W.kitOne K (.ref (Hx.gl K "TooLong")) (.ref (Hx.gl K "InvalidReading")) = some false)
abbrev ck_128 (K : Hx.Fr) : Bool := decide (PySem.W.kitOne K (.ref (Hx.gl K "TooLong")) (.ref (Hx.gl K "InvalidRow")) = some false)
abbrev ck_129 (K : Hx.Fr) : Bool := decide (PySem.W.kitOne K (.ref (Hx.gl K "TooLong")) (.ref (Hx.gl K "InvalidTable")) = some false)
abbrev ck_130 (K : Hx.Fr) : Bool := decide (PySem.W.kitOne K (.ref (Hx.gl K "TooLong")) (.ref (Hx.gl K "InvalidText")) = some false)
abbrev ck_131 (K : Hx.Fr) : Bool := decide (PySem.W.kitOne K (.ref (Hx.gl K "TooLong")) (.type "LookupError") = some false)
abbrev ck_132 (K : Hx.Fr) : Bool := decide (PySem.W.kitOne K (.ref (Hx.gl K "TooLong")) (.ref (Hx.gl K "Lossy")) = some false)
abbrev ck_133 (K : Hx.Fr) : Bool := decide (PySem.W.kitOne K (.ref (Hx.gl K "TooLong")) (.ref (Hx.gl K "NoName")) = some false)
abbrev ck_134 (K : Hx.Fr) : Bool := decide (PySem.W.kitOne K (.ref (Hx.gl K "TooLong")) (.ref (Hx.gl K "NoPlace")) = some false)
abbrev ck_135 (K : Hx.Fr) : Bool := decide (PySem.W.kitOne K (.ref (Hx.gl K "TooLong")) (.ref (Hx.gl K "NoPoint")) = some false)
abbrev ck_136 (K : Hx.Fr) : Bool := decide (PySem.W.kitOne K (.ref (Hx.gl K "TooLong")) (.ref (Hx.gl K "NoReading")) = some false)
abbrev ck_137 (K : Hx.Fr) : Bool := decide (PySem.W.kitOne K (.ref (Hx.gl K "TooLong")) (.ref (Hx.gl K "NothingToUndo")) = some false)
abbrev ck_138 (K : Hx.Fr) : Bool := decide (PySem.W.kitOne K (.ref (Hx.gl K "TooLong")) (.type "OverflowError") = some true)
abbrev ck_139 (K : Hx.Fr) : Bool := decide (PySem.W.kitOne K (.ref (Hx.gl K "TooLong")) (.ref (Hx.gl K "SizeError")) = some true)
abbrev ck_140 (K : Hx.Fr) : Bool := decide (PySem.W.kitOne K (.ref (Hx.gl K "TooLong")) (.ref (Hx.gl K "TooLarge")) = some false)
abbrev ck_141 (K : Hx.Fr) : Bool := decide (PySem.W.kitOne K (.ref (Hx.gl K "TooLong")) (.ref (Hx.gl K "TooLong")) = some true)
abbrev ck_142 (K : Hx.Fr) : Bool := decide (PySem.W.kitOne K (.ref (Hx.gl K "TooLong")) (.ref (Hx.gl K "TooManyProcesses")) = some false)
abbrev ck_143 (K : Hx.Fr) : Bool := decide (PySem.W.kitOne K (.ref (Hx.gl K "TooLong")) (.ref (Hx.gl K "UnknownCommand")) = some false)
abbrev ck_144 (K : Hx.Fr) : Bool := decide (PySem.W.kitOne K (.ref (Hx.gl K "TooLong")) (.type "ValueError") = some false)
abbrev ck_145 (K : Hx.Fr) : Bool := decide (PySem.W.findIn K (.ref (Hx.gl K "TooLong")) "length" = some none)
abbrev ck_146 (K : Hx.Fr) : Bool := decide (PySem.W.specialIn K (.builtin "object.__class__") "__get__" = some (some (.builtin "getset_descriptor.__get__")))
abbrev ck_147 (K : Hx.Fr) : Bool := decide (PySem.W.takesIn K (.builtin "object.__class__") = some true)
abbrev ck_148 (K : Hx.Fr) : Bool := decide (PySem.W.findIn K (.ref (Hx.gl K "Ledger")) "__class__" = some (some (.builtin "object.__class__")))
abbrev ck_149 (K : Hx.Fr) : Bool := decide (PySem.W.mroIn K (Hx.gl K "Ledger") (.type "object") = some true)
abbrev ck_150 (K : Hx.Fr) : Bool := decide (PySem.W.nsIn K mainGlobals "is_integer" = some (some (.ref (Hx.gl K "is_integer"))))
abbrev ck_151 (K : Hx.Fr) : Bool := decide (PySem.W.codeIn K (Hx.fv (·.code) K (Hx.gl K "is_integer")) "is_integer" = true)
abbrev ck_152 (K : Hx.Fr) : Bool := decide (PySem.W.keepIn K (.ref (Hx.gl K "is_integer")) = true)
abbrev ck_153 (K : Hx.Fr) : Bool := decide (PySem.W.nsIn K mainGlobals "is_between" = some (some (.ref (Hx.gl K "is_between"))))
abbrev ck_154 (K : Hx.Fr) : Bool := decide (PySem.W.codeIn K (Hx.fv (·.code) K (Hx.gl K "is_between")) "is_between" = true)
abbrev ck_155 (K : Hx.Fr) : Bool := decide (PySem.W.keepIn K (.ref (Hx.gl K "is_between")) = true)
abbrev ck_156 (K : Hx.Fr) : Bool := decide (PySem.W.nsIn K mainGlobals "need_capacity" = some (some (.ref (Hx.gl K "need_capacity"))))
abbrev ck_157 (K : Hx.Fr) : Bool := decide (PySem.W.codeIn K (Hx.fv (·.code) K (Hx.gl K "need_capacity")) "need_capacity" = true)
abbrev ck_158 (K : Hx.Fr) : Bool := decide (PySem.W.keepIn K (.ref (Hx.gl K "need_capacity")) = true)
abbrev ck_159 (K : Hx.Fr) : Bool := decide (PySem.W.nsIn K mainGlobals "is_row" = some (some (.ref (Hx.gl K "is_row"))))
abbrev ck_160 (K : Hx.Fr) : Bool := decide (PySem.W.codeIn K (Hx.fv (·.code) K (Hx.gl K "is_row")) "is_row" = true)
abbrev ck_161 (K : Hx.Fr) : Bool := decide (PySem.W.keepIn K (.ref (Hx.gl K "is_row")) = true)
abbrev ck_162 (K : Hx.Fr) : Bool := decide (PySem.W.findIn K (.ref (Hx.gl K "Ledger")) "__init__" = some (some (.ref (Hx.me K (Hx.gl K "Ledger") "__init__"))))
abbrev ck_163 (K : Hx.Fr) : Bool := decide (PySem.W.isFn K (.ref (Hx.me K (Hx.gl K "Ledger") "__init__")) = true)
abbrev ck_164 (K : Hx.Fr) : Bool := decide (PySem.W.fnIn K (Hx.me K (Hx.gl K "Ledger") "__init__") = true)
abbrev ck_165 (K : Hx.Fr) : Bool := decide (PySem.W.codeIn K (Hx.fv (·.code) K (Hx.me K (Hx.gl K "Ledger") "__init__")) "Ledger.__init__" = true)
abbrev ck_166 (K : Hx.Fr) : Bool := decide (PySem.W.keepIn K (.ref (Hx.me K (Hx.gl K "Ledger") "__init__")) = true)
abbrev ck_167 (K : Hx.Fr) : Bool := decide (PySem.W.findIn K (.ref (Hx.gl K "Ledger")) "rows" = some (some (.ref (Hx.me K (Hx.gl K "Ledger") "rows"))))
abbrev ck_168 (K : Hx.Fr) : Bool := decide (PySem.W.specialIn K (.ref (Hx.me K (Hx.gl K "Ledger") "rows")) "__get__" = some (some (.builtin "property.__get__")))
abbrev ck_169 (K : Hx.Fr) : Bool := decide (PySem.W.takesIn K (.ref (Hx.me K (Hx.gl K "Ledger") "rows")) = some true)
abbrev ck_170 (K : Hx.Fr) : Bool := decide (PySem.W.recIn K (Hx.me K (Hx.gl K "Ledger") "rows") "property" = some (.ref (Hx.rh K (Hx.me K (Hx.gl K "Ledger") "rows") "property") :: (Hx.rt K (Hx.me K (Hx.gl K "Ledger") "rows") "property")))
abbrev ck_171 (K : Hx.Fr) : Bool := decide (PySem.W.codeIn K (Hx.fv (·.code) K (Hx.rh K (Hx.me K (Hx.gl K "Ledger") "rows") "property")) "Ledger.rows" = true)
abbrev ck_172 (K : Hx.Fr) : Bool := decide (PySem.W.keepIn K (.ref (Hx.rh K (Hx.me K (Hx.gl K "Ledger") "rows") "property")) = true)
abbrev ck_173 (K : Hx.Fr) : Bool := decide (PySem.W.findIn K (.ref (Hx.gl K "Ledger")) "greatest" = some (some (.ref (Hx.me K (Hx.gl K "Ledger") "greatest"))))
abbrev ck_174 (K : Hx.Fr) : Bool := decide (PySem.W.specialIn K (.ref (Hx.me K (Hx.gl K "Ledger") "greatest")) "__get__" = some (some (.builtin "property.__get__")))
abbrev ck_175 (K : Hx.Fr) : Bool := decide (PySem.W.takesIn K (.ref (Hx.me K (Hx.gl K "Ledger") "greatest")) = some true)
abbrev ck_176 (K : Hx.Fr) : Bool := decide (PySem.W.recIn K (Hx.me K (Hx.gl K "Ledger") "greatest") "property" = some (.ref (Hx.rh K (Hx.me K (Hx.gl K "Ledger") "greatest") "property") :: (Hx.rt K (Hx.me K (Hx.gl K "Ledger") "greatest") "property")))
abbrev ck_177 (K : Hx.Fr) : Bool := decide (PySem.W.codeIn K (Hx.fv (·.code) K (Hx.rh K (Hx.me K (Hx.gl K "Ledger") "greatest") "property")) "Ledger.greatest" = true)
abbrev ck_178 (K : Hx.Fr) : Bool := decide (PySem.W.keepIn K (.ref (Hx.rh K (Hx.me K (Hx.gl K "Ledger") "greatest") "property")) = true)
abbrev ck_179 (K : Hx.Fr) : Bool := decide (PySem.W.findIn K (.ref (Hx.gl K "Ledger")) "__len__" = some (some (.ref (Hx.me K (Hx.gl K "Ledger") "__len__"))))
abbrev ck_180 (K : Hx.Fr) : Bool := decide (PySem.W.isFn K (.ref (Hx.me K (Hx.gl K "Ledger") "__len__")) = true)
abbrev ck_181 (K : Hx.Fr) : Bool := decide (PySem.W.fnIn K (Hx.me K (Hx.gl K "Ledger") "__len__") = true)
abbrev ck_182 (K : Hx.Fr) : Bool := decide (PySem.W.codeIn K (Hx.fv (·.code) K (Hx.me K (Hx.gl K "Ledger") "__len__")) "Ledger.__len__" = true)
abbrev ck_183 (K : Hx.Fr) : Bool := decide (PySem.W.keepIn K (.ref (Hx.me K (Hx.gl K "Ledger") "__len__")) = true)
abbrev ck_184 (K : Hx.Fr) : Bool := decide (PySem.W.findIn K (.ref (Hx.gl K "Ledger")) "__add__" = some (some (.ref (Hx.me K (Hx.gl K "Ledger") "__add__"))))
abbrev ck_185 (K : Hx.Fr) : Bool := decide (PySem.W.isFn K (.ref (Hx.me K (Hx.gl K "Ledger") "__add__")) = true)
abbrev ck_186 (K : Hx.Fr) : Bool := decide (PySem.W.fnIn K (Hx.me K (Hx.gl K "Ledger") "__add__") = true)
abbrev ck_187 (K : Hx.Fr) : Bool := decide (PySem.W.codeIn K (Hx.fv (·.code) K (Hx.me K (Hx.gl K "Ledger") "__add__")) "Ledger.__add__" = true)
abbrev ck_188 (K : Hx.Fr) : Bool := decide (PySem.W.keepIn K (.ref (Hx.me K (Hx.gl K "Ledger") "__add__")) = true)
abbrev ck_189 (K : Hx.Fr) : Bool := decide (PySem.W.findIn K (.ref (Hx.gl K "Ledger")) "__neg__" = some (some (.ref (Hx.me K (Hx.gl K "Ledger") "__neg__"))))
abbrev ck_190 (K : Hx.Fr) : Bool := decide (PySem.W.isFn K (.ref (Hx.me K (Hx.gl K "Ledger") "__neg__")) = true)
abbrev ck_191 (K : Hx.Fr) : Bool := decide (PySem.W.fnIn K (Hx.me K (Hx.gl K "Ledger") "__neg__") = true)
abbrev ck_192 (K : Hx.Fr) : Bool := decide (PySem.W.codeIn K (Hx.fv (·.code) K (Hx.me K (Hx.gl K "Ledger") "__neg__")) "Ledger.__neg__" = true)
abbrev ck_193 (K : Hx.Fr) : Bool := decide (PySem.W.keepIn K (.ref (Hx.me K (Hx.gl K "Ledger") "__neg__")) = true)
abbrev ck_194 (K : Hx.Fr) : Bool := decide (PySem.W.findIn K (.ref (Hx.gl K "Ledger")) "__sub__" = some (some (.ref (Hx.me K (Hx.gl K "Ledger") "__sub__"))))
abbrev ck_195 (K : Hx.Fr) : Bool := decide (PySem.W.isFn K (.ref (Hx.me K (Hx.gl K "Ledger") "__sub__")) = true)
abbrev ck_196 (K : Hx.Fr) : Bool := decide (PySem.W.fnIn K (Hx.me K (Hx.gl K "Ledger") "__sub__") = true)
abbrev ck_197 (K : Hx.Fr) : Bool := decide (PySem.W.codeIn K (Hx.fv (·.code) K (Hx.me K (Hx.gl K "Ledger") "__sub__")) "Ledger.__sub__" = true)
abbrev ck_198 (K : Hx.Fr) : Bool := decide (PySem.W.keepIn K (.ref (Hx.me K (Hx.gl K "Ledger") "__sub__")) = true)
abbrev ck_199 (K : Hx.Fr) : Bool := decide (PySem.W.findIn K (.ref (Hx.gl K "Ledger")) "__mul__" = some (some (.ref (Hx.me K (Hx.gl K "Ledger") "__mul__"))))
abbrev ck_200 (K : Hx.Fr) : Bool := decide (PySem.W.isFn K (.ref (Hx.me K (Hx.gl K "Ledger") "__mul__")) = true)
abbrev ck_201 (K : Hx.Fr) : Bool := decide (PySem.W.fnIn K (Hx.me K (Hx.gl K "Ledger") "__mul__") = true)
abbrev ck_202 (K : Hx.Fr) : Bool := decide (PySem.W.findIn K (.type "int") "__mul__" = some ((PySem.W.findIn K (.type "int") "__mul__").getD none))
abbrev ck_203 (K : Hx.Fr) : Bool := decide (PySem.W.findIn K (.type "int") "__rmul__" = some ((PySem.W.findIn K (.type "int") "__rmul__").getD none))
abbrev ck_204 (K : Hx.Fr) : Bool := decide (PySem.W.findIn K (.ref (Hx.gl K "Ledger")) "__rmul__" = some none)
abbrev ck_205 (K : Hx.Fr) : Bool := decide (PySem.W.subIn K (.type "int") (.ref (Hx.gl K "Ledger")) = some false)
abbrev ck_206 (K : Hx.Fr) : Bool := decide (PySem.W.codeIn K (Hx.fv (·.code) K (Hx.me K (Hx.gl K "Ledger") "__mul__")) "Ledger.__mul__" = true)
abbrev ck_207 (K : Hx.Fr) : Bool := decide (PySem.W.keepIn K (.ref (Hx.me K (Hx.gl K "Ledger") "__mul__")) = true)
abbrev ck_208 (K : Hx.Fr) : Bool := decide (PySem.W.findIn K (.ref (Hx.gl K "Ledger")) "moved" = some (some (.ref (Hx.me K (Hx.gl K "Ledger") "moved"))))
abbrev ck_209 (K : Hx.Fr) : Bool := decide (PySem.W.isFn K (.ref (Hx.me K (Hx.gl K "Ledger") "moved")) = true)
abbrev ck_210 (K : Hx.Fr) : Bool := decide (PySem.W.fnIn K (Hx.me K (Hx.gl K "Ledger") "moved") = true)
abbrev ck_211 (K : Hx.Fr) : Bool := decide (PySem.W.codeIn K (Hx.fv (·.code) K (Hx.me K (Hx.gl K "Ledger") "moved")) "Ledger.moved" = true)
abbrev ck_212 (K : Hx.Fr) : Bool := decide (PySem.W.keepIn K (.ref (Hx.me K (Hx.gl K "Ledger") "moved")) = true)
abbrev ck_213 (K : Hx.Fr) : Bool := decide (PySem.W.findIn K (.ref (Hx.gl K "Ledger")) "from_offset" = some (some (.ref (Hx.me K (Hx.gl K "Ledger") "from_offset"))))
abbrev ck_214 (K : Hx.Fr) : Bool := decide (PySem.W.isFn K (.ref (Hx.me K (Hx.gl K "Ledger") "from_offset")) = true)
abbrev ck_215 (K : Hx.Fr) : Bool := decide (PySem.W.fnIn K (Hx.me K (Hx.gl K "Ledger") "from_offset") = true)
abbrev ck_216 (K : Hx.Fr) : Bool := decide (PySem.W.codeIn K (Hx.fv (·.code) K (Hx.me K (Hx.gl K "Ledger") "from_offset")) "Ledger.from_offset" = true)
abbrev ck_217 (K : Hx.Fr) : Bool := decide (PySem.W.keepIn K (.ref (Hx.me K (Hx.gl K "Ledger") "from_offset")) = true)
abbrev ck_218 (K : Hx.Fr) : Bool := decide (PySem.W.findIn K (.ref (Hx.gl K "Ledger")) "sum_at" = some (some (.ref (Hx.me K (Hx.gl K "Ledger") "sum_at"))))
abbrev ck_219 (K : Hx.Fr) : Bool := decide (PySem.W.isFn K (.ref (Hx.me K (Hx.gl K "Ledger") "sum_at")) = true)
abbrev ck_220 (K : Hx.Fr) : Bool := decide (PySem.W.fnIn K (Hx.me K (Hx.gl K "Ledger") "sum_at") = true)
abbrev ck_221 (K : Hx.Fr) : Bool := decide (PySem.W.codeIn K (Hx.fv (·.code) K (Hx.me K (Hx.gl K "Ledger") "sum_at")) "Ledger.sum_at" = true)
abbrev ck_222 (K : Hx.Fr) : Bool := decide (PySem.W.keepIn K (.ref (Hx.me K (Hx.gl K "Ledger") "sum_at")) = true)
abbrev ck_223 (K : Hx.Fr) : Bool := decide (PySem.W.findIn K (.ref (Hx.gl K "Ledger")) "__call__" = some (some (.ref (Hx.me K (Hx.gl K "Ledger") "__call__"))))
abbrev ck_224 (K : Hx.Fr) : Bool := decide (PySem.W.isFn K (.ref (Hx.me K (Hx.gl K "Ledger") "__call__")) = true)
abbrev ck_225 (K : Hx.Fr) : Bool := decide (PySem.W.fnIn K (Hx.me K (Hx.gl K "Ledger") "__call__") = true)
abbrev ck_226 (K : Hx.Fr) : Bool := decide (PySem.W.codeIn K (Hx.fv (·.code) K (Hx.me K (Hx.gl K "Ledger") "__call__")) "Ledger.__call__" = true)
abbrev ck_227 (K : Hx.Fr) : Bool := decide (PySem.W.keepIn K (.ref (Hx.me K (Hx.gl K "Ledger") "__call__")) = true)
abbrev ck_228 (K : Hx.Fr) : Bool := decide (PySem.W.findIn K (.ref (Hx.gl K "Ledger")) "__eq__" = some (some (.ref (Hx.me K (Hx.gl K "Ledger") "__eq__"))))
abbrev ck_229 (K : Hx.Fr) : Bool := decide (PySem.W.isFn K (.ref (Hx.me K (Hx.gl K "Ledger") "__eq__")) = true)
abbrev ck_230 (K : Hx.Fr) : Bool := decide (PySem.W.fnIn K (Hx.me K (Hx.gl K "Ledger") "__eq__") = true)
abbrev ck_231 (K : Hx.Fr) : Bool := decide (PySem.W.codeIn K (Hx.fv (·.code) K (Hx.me K (Hx.gl K "Ledger") "__eq__")) "Ledger.__eq__" = true)
abbrev ck_232 (K : Hx.Fr) : Bool := decide (PySem.W.keepIn K (.ref (Hx.me K (Hx.gl K "Ledger") "__eq__")) = true)
abbrev ck_233 (K : Hx.Fr) : Bool := decide (PySem.W.nsIn K mainGlobals "_law_pen" = some (some (.ref (Hx.gl K "_law_pen"))))
abbrev ck_234 (K : Hx.Fr) : Bool := decide (PySem.W.codeIn K (Hx.fv (·.code) K (Hx.gl K "_law_pen")) "_law_pen" = true)
abbrev ck_235 (K : Hx.Fr) : Bool := decide (PySem.W.keepIn K (.ref (Hx.gl K "_law_pen")) = true)
abbrev ck_236 (K : Hx.Fr) : Bool := decide (PySem.W.nsIn K mainGlobals "_law_draw" = some (some (.ref (Hx.gl K "_law_draw"))))
abbrev ck_237 (K : Hx.Fr) : Bool := decide (PySem.W.codeIn K (Hx.fv (·.code) K (Hx.gl K "_law_draw")) "_law_draw" = true)
abbrev ck_238 (K : Hx.Fr) : Bool := decide (PySem.W.keepIn K (.ref (Hx.gl K "_law_draw")) = true)
abbrev ck_239 (K : Hx.Fr) : Bool := decide (PySem.W.nsIn K mainGlobals "_law_word" = some (some (.ref (Hx.gl K "_law_word"))))
abbrev ck_240 (K : Hx.Fr) : Bool := decide (PySem.W.codeIn K (Hx.fv (·.code) K (Hx.gl K "_law_word")) "_law_word" = true)
abbrev ck_241 (K : Hx.Fr) : Bool := decide (PySem.W.keepIn K (.ref (Hx.gl K "_law_word")) = true)
abbrev ck_242 (K : Hx.Fr) : Bool := decide (PySem.W.nsIn K mainGlobals "_law_field" = some (some (.ref (Hx.gl K "_law_field"))))
abbrev ck_243 (K : Hx.Fr) : Bool := decide (PySem.W.codeIn K (Hx.fv (·.code) K (Hx.gl K "_law_field")) "_law_field" = true)
abbrev ck_244 (K : Hx.Fr) : Bool := decide (PySem.W.keepIn K (.ref (Hx.gl K "_law_field")) = true)
abbrev ck_245 (K : Hx.Fr) : Bool := decide (PySem.W.nsIn K mainGlobals "_law_more_field" = some (some (.ref (Hx.gl K "_law_more_field"))))
abbrev ck_246 (K : Hx.Fr) : Bool := decide (PySem.W.codeIn K (Hx.fv (·.code) K (Hx.gl K "_law_more_field")) "_law_more_field" = true)
abbrev ck_247 (K : Hx.Fr) : Bool := decide (PySem.W.keepIn K (.ref (Hx.gl K "_law_more_field")) = true)
abbrev ck_248 (K : Hx.Fr) : Bool := decide (PySem.W.nsIn K mainGlobals "_law_heard" = some (some (.ref (Hx.gl K "_law_heard"))))
abbrev ck_249 (K : Hx.Fr) : Bool := decide (PySem.W.codeIn K (Hx.fv (·.code) K (Hx.gl K "_law_heard")) "_law_heard" = true)
abbrev ck_250 (K : Hx.Fr) : Bool := decide (PySem.W.keepIn K (.ref (Hx.gl K "_law_heard")) = true)
abbrev ck_251 (K : Hx.Fr) : Bool := decide (PySem.W.nsIn K mainGlobals "_law_offset" = some (some (.ref (Hx.gl K "_law_offset"))))
abbrev ck_252 (K : Hx.Fr) : Bool := decide (PySem.W.codeIn K (Hx.fv (·.code) K (Hx.gl K "_law_offset")) "_law_offset" = true)
abbrev ck_253 (K : Hx.Fr) : Bool := decide (PySem.W.keepIn K (.ref (Hx.gl K "_law_offset")) = true)
abbrev ck_254 (K : Hx.Fr) : Bool := decide (PySem.W.nsIn K mainGlobals "_law_amount" = some (some (.ref (Hx.gl K "_law_amount"))))
abbrev ck_255 (K : Hx.Fr) : Bool := decide (PySem.W.codeIn K (Hx.fv (·.code) K (Hx.gl K "_law_amount")) "_law_amount" = true)
abbrev ck_256 (K : Hx.Fr) : Bool := decide (PySem.W.keepIn K (.ref (Hx.gl K "_law_amount")) = true)
abbrev ck_257 (K : Hx.Fr) : Bool := decide (PySem.W.nsIn K mainGlobals "_law_rows" = some (some (.ref (Hx.gl K "_law_rows"))))
abbrev ck_258 (K : Hx.Fr) : Bool := decide (PySem.W.codeIn K (Hx.fv (·.code) K (Hx.gl K "_law_rows")) "_law_rows" = true)
abbrev ck_259 (K : Hx.Fr) : Bool := decide (PySem.W.keepIn K (.ref (Hx.gl K "_law_rows")) = true)
abbrev ck_260 (K : Hx.Fr) : Bool := decide (PySem.W.nsIn K mainGlobals "_law_sums" = some (some (.ref (Hx.gl K "_law_sums"))))
abbrev ck_261 (K : Hx.Fr) : Bool := decide (PySem.W.codeIn K (Hx.fv (·.code) K (Hx.gl K "_law_sums")) "_law_sums" = true)
abbrev ck_262 (K : Hx.Fr) : Bool := decide (PySem.W.keepIn K (.ref (Hx.gl K "_law_sums")) = true)
abbrev ck_263 (K : Hx.Fr) : Bool := decide (PySem.W.nsIn K mainGlobals "_law_ledger" = some (some (.ref (Hx.gl K "_law_ledger"))))
abbrev ck_264 (K : Hx.Fr) : Bool := decide (PySem.W.codeIn K (Hx.fv (·.code) K (Hx.gl K "_law_ledger")) "_law_ledger" = true)
abbrev ck_265 (K : Hx.Fr) : Bool := decide (PySem.W.keepIn K (.ref (Hx.gl K "_law_ledger")) = true)
abbrev ck_266 (K : Hx.Fr) : Bool := decide (PySem.W.nsIn K mainGlobals "_law_moved_right" = some (some (.ref (Hx.gl K "_law_moved_right"))))
abbrev ck_267 (K : Hx.Fr) : Bool := decide (Hx.fv (·.code) K (Hx.gl K "_law_moved_right") = .ref (Hx.cA K (Hx.gl K "_law_moved_right")))
abbrev ck_268 (K : Hx.Fr) : Bool := decide (PySem.W.codeIn K (.ref (Hx.cA K (Hx.gl K "_law_moved_right"))) "_law_moved_right" = true)
abbrev ck_269 (K : Hx.Fr) : Bool := decide (PySem.W.keepIn K (.ref (Hx.gl K "_law_moved_right")) = true)
abbrev ck_270 (K : Hx.Fr) : Bool := Hx.flOk K (Hx.cA K (Hx.gl K "_law_moved_right"))
abbrev ck_271 (K : Hx.Fr) : Bool := decide ((Hx.fl K (Hx.cA K (Hx.gl K "_law_moved_right")))[11]? = some (.ref (Hx.r11 K (Hx.cA K (Hx.gl K "_law_moved_right")))))
abbrev ck_272 (K : Hx.Fr) : Bool := (K.lookup (Hx.r11 K (Hx.cA K (Hx.gl K "_law_moved_right")))).isNone
abbrev ck_273 (K : Hx.Fr) : Bool := decide (PySem.W.nsIn K mainGlobals "_law_from_right" = some (some (.ref (Hx.gl K "_law_from_right"))))
abbrev ck_274 (K : Hx.Fr) : Bool := decide (PySem.W.codeIn K (Hx.fv (·.code) K (Hx.gl K "_law_from_right")) "_law_from_right" = true)
abbrev ck_275 (K : Hx.Fr) : Bool := decide (PySem.W.keepIn K (.ref (Hx.gl K "_law_from_right")) = true)
abbrev ck_276 (K : Hx.Fr) : Bool := decide (PySem.W.nsIn K mainGlobals "_law_capacity" = some (some (.ref (Hx.gl K "_law_capacity"))))
abbrev ck_277 (K : Hx.Fr) : Bool := decide (PySem.W.codeIn K (Hx.fv (·.code) K (Hx.gl K "_law_capacity")) "_law_capacity" = true)
abbrev ck_278 (K : Hx.Fr) : Bool := decide (PySem.W.keepIn K (.ref (Hx.gl K "_law_capacity")) = true)
abbrev ck_279 (K : Hx.Fr) : Bool := decide (PySem.W.nsIn K mainGlobals "_law_no_capacity" = some (some (.ref (Hx.gl K "_law_no_capacity"))))
abbrev ck_280 (K : Hx.Fr) : Bool := decide (PySem.W.codeIn K (Hx.fv (·.code) K (Hx.gl K "_law_no_capacity")) "_law_no_capacity" = true)
abbrev ck_281 (K : Hx.Fr) : Bool := decide (PySem.W.keepIn K (.ref (Hx.gl K "_law_no_capacity")) = true)
abbrev ck_282 (K : Hx.Fr) : Bool := decide (PySem.W.nsIn K mainGlobals "_law_due" = some (some (.ref (Hx.gl K "_law_due"))))
abbrev ck_283 (K : Hx.Fr) : Bool := decide (PySem.W.codeIn K (Hx.fv (·.code) K (Hx.gl K "_law_due")) "_law_due" = true)
abbrev ck_284 (K : Hx.Fr) : Bool := decide (PySem.W.keepIn K (.ref (Hx.gl K "_law_due")) = true)
abbrev ck_285 (K : Hx.Fr) : Bool := decide (PySem.W.nsIn K mainGlobals "_law_called_right" = some (some (.ref (Hx.gl K "_law_called_right"))))
abbrev ck_286 (K : Hx.Fr) : Bool := decide (Hx.fv (·.code) K (Hx.gl K "_law_called_right") = .ref (Hx.cA K (Hx.gl K "_law_called_right")))
abbrev ck_287 (K : Hx.Fr) : Bool := decide (PySem.W.codeIn K (.ref (Hx.cA K (Hx.gl K "_law_called_right"))) "_law_called_right" = true)
abbrev ck_288 (K : Hx.Fr) : Bool := decide (PySem.W.keepIn K (.ref (Hx.gl K "_law_called_right")) = true)
abbrev ck_289 (K : Hx.Fr) : Bool := Hx.flOk K (Hx.cA K (Hx.gl K "_law_called_right"))
abbrev ck_290 (K : Hx.Fr) : Bool := decide ((Hx.fl K (Hx.cA K (Hx.gl K "_law_called_right")))[11]? = some (.ref (Hx.r11 K (Hx.cA K (Hx.gl K "_law_called_right")))))
abbrev ck_291 (K : Hx.Fr) : Bool := (K.lookup (Hx.r11 K (Hx.cA K (Hx.gl K "_law_called_right")))).isNone
abbrev ck_292 (K : Hx.Fr) : Bool := decide (PySem.W.nsIn K mainGlobals "law" = some (some (.ref (Hx.gl K "law"))))
abbrev ck_293 (K : Hx.Fr) : Bool := decide (PySem.W.codeIn K (Hx.fv (·.code) K (Hx.gl K "law")) "law" = true)
abbrev ck_294 (K : Hx.Fr) : Bool := decide (PySem.W.keepIn K (.ref (Hx.gl K "law")) = true)
abbrev ck_295 (K : Hx.Fr) : Bool := decide (PySem.W.codeIn K (Hx.fv (·.code) K (Hx.me K (Hx.gl K "InvalidCapacity") "__init__")) "InvalidCapacity.__init__" = true)
abbrev ck_296 (K : Hx.Fr) : Bool := decide (PySem.W.keepIn K (.ref (Hx.me K (Hx.gl K "InvalidCapacity") "__init__")) = true)
abbrev ck_297 (K : Hx.Fr) : Bool := decide (PySem.W.codeIn K (Hx.fv (·.code) K (Hx.me K (Hx.gl K "TooLong") "__init__")) "TooLong.__init__" = true)
abbrev ck_298 (K : Hx.Fr) : Bool := decide (PySem.W.keepIn K (.ref (Hx.me K (Hx.gl K "TooLong") "__init__")) = true)
abbrev ck_299 (K : Hx.Fr) : Bool := decide ([(Hx.r11 K (Hx.cA K (Hx.gl K "_law_called_right"))), (Hx.r11 K (Hx.cA K (Hx.gl K "_law_moved_right")))].Nodup)
abbrev ck_300 (K : Hx.Fr) : Bool := decide (PySem.W.nsIn K mainGlobals "LookupError" = some none)
abbrev ck_301 (K : Hx.Fr) : Bool := decide (PySem.W.nsIn K mainGlobals "OverflowError" = some none)
abbrev ck_302 (K : Hx.Fr) : Bool := decide (PySem.W.nsIn K mainGlobals "ValueError" = some none)
abbrev ck_303 (K : Hx.Fr) : Bool := decide (PySem.W.nsIn K mainGlobals "abs" = some none)
abbrev ck_304 (K : Hx.Fr) : Bool := decide (PySem.W.nsIn K mainGlobals "bool" = some none)
abbrev ck_305 (K : Hx.Fr) : Bool := decide (PySem.W.nsIn K mainGlobals "enumerate" = some none)
abbrev ck_306 (K : Hx.Fr) : Bool := decide (PySem.W.nsIn K mainGlobals "int" = some none)
abbrev ck_307 (K : Hx.Fr) : Bool := decide (PySem.W.nsIn K mainGlobals "isinstance" = some none)
abbrev ck_308 (K : Hx.Fr) : Bool := decide (PySem.W.nsIn K mainGlobals "len" = some none)
abbrev ck_309 (K : Hx.Fr) : Bool := decide (PySem.W.nsIn K mainGlobals "list" = some none)
abbrev ck_310 (K : Hx.Fr) : Bool := decide (PySem.W.nsIn K mainGlobals "max" = some none)
abbrev ck_311 (K : Hx.Fr) : Bool := decide (PySem.W.nsIn K mainGlobals "min" = some none)
abbrev ck_312 (K : Hx.Fr) : Bool := decide (PySem.W.nsIn K mainGlobals "range" = some none)
abbrev ck_313 (K : Hx.Fr) : Bool := decide (PySem.W.nsIn K mainGlobals "repr" = some none)
abbrev ck_314 (K : Hx.Fr) : Bool := decide (PySem.W.nsIn K mainGlobals "sorted" = some none)
abbrev ck_315 (K : Hx.Fr) : Bool := decide (PySem.W.nsIn K mainGlobals "sum" = some none)
abbrev ck_316 (K : Hx.Fr) : Bool := decide (PySem.W.nsIn K mainGlobals "tuple" = some none)
abbrev ck_317 (K : Hx.Fr) : Bool := decide (PySem.W.nsIn K mainGlobals "MOST_CAPACITY" = some (some (Value.int 1000000000000000000000000000000 (Hx.tk (PySem.W.nsIn K mainGlobals "MOST_CAPACITY")))))
abbrev ck_318 (K : Hx.Fr) : Bool := decide (PySem.W.nsIn K mainGlobals "MOST_OFFSET" = some (some (Value.int 1000000 (Hx.tk (PySem.W.nsIn K mainGlobals "MOST_OFFSET")))))
noncomputable def cks_0 : List (Hx.Fr → Bool) := [ck_0, ck_1, ck_2, ck_3, ck_4, ck_5, ck_6, ck_7, ck_8, ck_9, ck_10, ck_11, ck_12, ck_13, ck_14, ck_15, ck_16, ck_17, ck_18, ck_19, ck_20, ck_21, ck_22, ck_23, ck_24, ck_25, ck_26, ck_27, ck_28, ck_29, ck_30, ck_31, ck_32, ck_33, ck_34, ck_35, ck_36, ck_37, ck_38, ck_39]
noncomputable def cks_1 : List (Hx.Fr → Bool) := [ck_40, ck_41, ck_42, ck_43, ck_44, ck_45, ck_46, ck_47, ck_48, ck_49, ck_50, ck_51, ck_52, ck_53, ck_54, ck_55, ck_56, ck_57, ck_58, ck_59, ck_60, ck_61, ck_62, ck_63, ck_64, ck_65, ck_66, ck_67, ck_68, ck_69, ck_70, ck_71, ck_72, ck_73, ck_74, ck_75, ck_76, ck_77, ck_78, ck_79]
noncomputable def cks_2 : List (Hx.Fr → Bool) := [ck_80, ck_81, ck_82, ck_83, ck_84, ck_85, ck_86, ck_87, ck_88, ck_89, ck_90, ck_91, ck_92, ck_93, ck_94, ck_95, ck_96, ck_97, ck_98, ck_99, ck_100, ck_101, ck_102, ck_103, ck_104, ck_105, ck_106, ck_107, ck_108, ck_109, ck_110, ck_111, ck_112, ck_113, ck_114, ck_115, ck_116, ck_117, ck_118, ck_119]
noncomputable def cks_3 : List (Hx.Fr → Bool) := [ck_120, ck_121, ck_122, ck_123, ck_124, ck_125, ck_126, ck_127, ck_128, ck_129, ck_130, ck_131, ck_132, ck_133, ck_134, ck_135, ck_136, ck_137, ck_138, ck_139, ck_140, ck_141, ck_142, ck_143, ck_144, ck_145, ck_146, ck_147, ck_148, ck_149, ck_150, ck_151, ck_152, ck_153, ck_154, ck_155, ck_156, ck_157, ck_158, ck_159]
noncomputable def cks_4 : List (Hx.Fr → Bool) := [ck_160, ck_161, ck_162, ck_163, ck_164, ck_165, ck_166, ck_167, ck_168, ck_169, ck_170, ck_171, ck_172, ck_173, ck_174, ck_175, ck_176, ck_177, ck_178, ck_179, ck_180, ck_181, ck_182, ck_183, ck_184, ck_185, ck_186, ck_187, ck_188, ck_189, ck_190, ck_191, ck_192, ck_193, ck_194, ck_195, ck_196, ck_197, ck_198, ck_199]
noncomputable def cks_5 : List (Hx.Fr → Bool) := [ck_200, ck_201, ck_202, ck_203, ck_204, ck_205, ck_206, ck_207, ck_208, ck_209, ck_210, ck_211, ck_212, ck_213, ck_214, ck_215, ck_216, ck_217, ck_218, ck_219, ck_220, ck_221, ck_222, ck_223, ck_224, ck_225, ck_226, ck_227, ck_228, ck_229, ck_230, ck_231, ck_232, ck_233, ck_234, ck_235, ck_236, ck_237, ck_238, ck_239]
noncomputable def cks_6 : List (Hx.Fr → Bool) := [ck_240, ck_241, ck_242, ck_243, ck_244, ck_245, ck_246, ck_247, ck_248, ck_249, ck_250, ck_251, ck_252, ck_253, ck_254, ck_255, ck_256, ck_257, ck_258, ck_259, ck_260, ck_261, ck_262, ck_263, ck_264, ck_265, ck_266, ck_267, ck_268, ck_269, ck_270, ck_271, ck_272, ck_273, ck_274, ck_275, ck_276, ck_277, ck_278, ck_279]
noncomputable def cks_7 : List (Hx.Fr → Bool) := [ck_280, ck_281, ck_282, ck_283, ck_284, ck_285, ck_286, ck_287, ck_288, ck_289, ck_290, ck_291, ck_292, ck_293, ck_294, ck_295, ck_296, ck_297, ck_298, ck_299, ck_300, ck_301, ck_302, ck_303, ck_304, ck_305, ck_306, ck_307, ck_308, ck_309, ck_310, ck_311, ck_312, ck_313, ck_314, ck_315, ck_316, ck_317, ck_318]
noncomputable def ct_0 : List (List (Hx.Fr → Bool)) := [cks_0, cks_1, cks_2]
noncomputable def ct_1 : List (List (Hx.Fr → Bool)) := [cks_3, cks_4, cks_5]
noncomputable def ct_2 : List (List (Hx.Fr → Bool)) := [cks_6, cks_7]
noncomputable abbrev cks : List (List (Hx.Fr → Bool)) := (ct_0 ++ (ct_1 ++ ct_2))
noncomputable def fn_0 : Hx.FnX := ⟨fun K => (Hx.gl K "is_integer"), "is_integer", "is_integer", s_is_integer, false⟩
noncomputable def fn_1 : Hx.FnX := ⟨fun K => (Hx.gl K "is_between"), "is_between", "is_between", s_is_between, false⟩
noncomputable def fn_2 : Hx.FnX := ⟨fun K => (Hx.gl K "need_capacity"), "need_capacity", "need_capacity", s_need_capacity, false⟩
noncomputable def fn_3 : Hx.FnX := ⟨fun K => (Hx.gl K "is_row"), "is_row", "is_row", s_is_row, false⟩
noncomputable def fn_4 : Hx.FnX := ⟨fun K => (Hx.me K (Hx.gl K "Ledger") "__init__"), "__init__", "Ledger.__init__", s_Ledger___init__, false⟩
noncomputable def fn_5 : Hx.FnX := ⟨fun K => (Hx.rh K (Hx.me K (Hx.gl K "Ledger") "rows") "property"), "rows", "Ledger.rows", s_Ledger_rows, false⟩
noncomputable def fn_6 : Hx.FnX := ⟨fun K => (Hx.rh K (Hx.me K (Hx.gl K "Ledger") "greatest") "property"), "greatest", "Ledger.greatest", s_Ledger_greatest, false⟩
noncomputable def fn_7 : Hx.FnX := ⟨fun K => (Hx.me K (Hx.gl K "Ledger") "__len__"), "__len__", "Ledger.__len__", s_Ledger___len__, false⟩
noncomputable def fn_8 : Hx.FnX := ⟨fun K => (Hx.me K (Hx.gl K "Ledger") "__add__"), "__add__", "Ledger.__add__", s_Ledger___add__, false⟩
noncomputable def fn_9 : Hx.FnX := ⟨fun K => (Hx.me K (Hx.gl K "Ledger") "__neg__"), "__neg__", "Ledger.__neg__", s_Ledger___neg__, false⟩
noncomputable def fn_10 : Hx.FnX := ⟨fun K => (Hx.me K (Hx.gl K "Ledger") "__sub__"), "__sub__", "Ledger.__sub__", s_Ledger___sub__, false⟩
noncomputable def fn_11 : Hx.FnX := ⟨fun K => (Hx.me K (Hx.gl K "Ledger") "__mul__"), "__mul__", "Ledger.__mul__", s_Ledger___mul__, false⟩
noncomputable def fn_12 : Hx.FnX := ⟨fun K => (Hx.me K (Hx.gl K "Ledger") "moved"), "moved", "Ledger.moved", s_Ledger_moved, false⟩
noncomputable def fn_13 : Hx.FnX := ⟨fun K => (Hx.me K (Hx.gl K "Ledger") "from_offset"), "from_offset", "Ledger.from_offset", s_Ledger_from_offset, false⟩
noncomputable def fn_14 : Hx.FnX := ⟨fun K => (Hx.me K (Hx.gl K "Ledger") "sum_at"), "sum_at", "Ledger.sum_at", s_Ledger_sum_at, false⟩
noncomputable def fn_15 : Hx.FnX := ⟨fun K => (Hx.me K (Hx.gl K "Ledger") "__call__"), "__call__", "Ledger.__call__", s_Ledger___call__, false⟩
noncomputable def fn_16 : Hx.FnX := ⟨fun K => (Hx.me K (Hx.gl K "Ledger") "__eq__"), "__eq__", "Ledger.__eq__", s_Ledger___eq__, false⟩
noncomputable def fn_17 : Hx.FnX := ⟨fun K => (Hx.gl K "_law_pen"), "_law_pen", "_law_pen", s__law_pen, false⟩
noncomputable def fn_18 : Hx.FnX := ⟨fun K => (Hx.gl K "_law_draw"), "_law_draw", "_law_draw", s__law_draw, false⟩
noncomputable def fn_19 : Hx.FnX := ⟨fun K => (Hx.gl K "_law_word"), "_law_word", "_law_word", s__law_word, false⟩
noncomputable def fn_20 : Hx.FnX := ⟨fun K => (Hx.gl K "_law_field"), "_law_field", "_law_field", s__law_field, false⟩
noncomputable def fn_21 : Hx.FnX := ⟨fun K => (Hx.gl K "_law_more_field"), "_law_more_field", "_law_more_field", s__law_more_field, false⟩
noncomputable def fn_22 : Hx.FnX := ⟨fun K => (Hx.gl K "_law_heard"), "_law_heard", "_law_heard", s__law_heard, false⟩
noncomputable def fn_23 : Hx.FnX := ⟨fun K => (Hx.gl K "_law_offset"), "_law_offset", "_law_offset", s__law_offset, false⟩
noncomputable def fn_24 : Hx.FnX := ⟨fun K => (Hx.gl K "_law_amount"), "_law_amount", "_law_amount", s__law_amount, false⟩
noncomputable def fn_25 : Hx.FnX := ⟨fun K => (Hx.gl K "_law_rows"), "_law_rows", "_law_rows", s__law_rows, false⟩
noncomputable def fn_26 : Hx.FnX := ⟨fun K => (Hx.gl K "_law_sums"), "_law_sums", "_law_sums", s__law_sums, false⟩
noncomputable def fn_27 : Hx.FnX := ⟨fun K => (Hx.gl K "_law_ledger"), "_law_ledger", "_law_ledger", s__law_ledger, false⟩
noncomputable def fn_28 : Hx.FnX := ⟨fun K => (Hx.gl K "_law_moved_right"), "_law_moved_right", "_law_moved_right", s__law_moved_right, false⟩
noncomputable def fn_29 : Hx.FnX := ⟨fun K => (Hx.gl K "_law_from_right"), "_law_from_right", "_law_from_right", s__law_from_right, false⟩
noncomputable def fn_30 : Hx.FnX := ⟨fun K => (Hx.gl K "_law_capacity"), "_law_capacity", "_law_capacity", s__law_capacity, false⟩
noncomputable def fn_31 : Hx.FnX := ⟨fun K => (Hx.gl K "_law_no_capacity"), "_law_no_capacity", "_law_no_capacity", s__law_no_capacity, false⟩
noncomputable def fn_32 : Hx.FnX := ⟨fun K => (Hx.gl K "_law_due"), "_law_due", "_law_due", s__law_due, false⟩
noncomputable def fn_33 : Hx.FnX := ⟨fun K => (Hx.gl K "_law_called_right"), "_law_called_right", "_law_called_right", s__law_called_right, false⟩
noncomputable def fn_34 : Hx.FnX := ⟨fun K => (Hx.gl K "law"), "law", "law", s_law, false⟩
noncomputable def fn_35 : Hx.FnX := ⟨fun K => (Hx.me K (Hx.gl K "InvalidCapacity") "__init__"), "__init__", "InvalidCapacity.__init__", s_InvalidCapacity___init__, false⟩
noncomputable def fn_36 : Hx.FnX := ⟨fun K => (Hx.me K (Hx.gl K "TooLong") "__init__"), "__init__", "TooLong.__init__", s_TooLong___init__, false⟩
noncomputable def fns : List Hx.FnX := [fn_0, fn_1, fn_2, fn_3, fn_4, fn_5, fn_6, fn_7, fn_8, fn_9, fn_10, fn_11, fn_12, fn_13, fn_14, fn_15, fn_16, fn_17, fn_18, fn_19, fn_20, fn_21, fn_22, fn_23, fn_24, fn_25, fn_26, fn_27, fn_28, fn_29, fn_30, fn_31, fn_32, fn_33, fn_34, fn_35, fn_36]
abbrev Rw : PySem.W.OpenRow := PySem.W.OpenLaw.row PySem.Challenge.rw_forkecho_k26_ledgers_added_and_moved
noncomputable abbrev hk : PySem.W.Hook := Hx.hookX 3000 [] cks fns
noncomputable abbrev ob : PySem.W.SharedT → Hx.AlX := Hx.obT 3000 [] cks fns
theorem ob_eq (s : PySem.W.SharedT) : ob s = hk.obs s.abs := Hx.obT_eq s
def names : List Str := (Rw.prog.main.scope.names.map (·.1)).filter fun x => x != "_law_called_right" && x != "_law_moved_right" && x != "law" && x != "__name__"
set_option maxHeartbeats 0 in
theorem run_0 (w : World) : HandSHeadRun.RunEq Rw (PySem.W.view Rw.prog [50, 55, 56]) (Hx.hookX 3000 [] ct_0 []) (Hx.obT 3000 [] ct_0 []) 100000 names w := by
  intro os
  kernel_rfl
set_option maxHeartbeats 0 in
theorem run_1 (w : World) : HandSHeadRun.RunEq Rw (PySem.W.view Rw.prog [50, 55, 56]) (Hx.hookX 3000 [] ct_1 []) (Hx.obT 3000 [] ct_1 []) 100000 names w := by
  intro os
  kernel_rfl
set_option maxHeartbeats 0 in
theorem run_2 (w : World) : HandSHeadRun.RunEq Rw (PySem.W.view Rw.prog [50, 55, 56]) (Hx.hookX 3000 [] ct_2 fns) (Hx.obT 3000 [] ct_2 fns) 100000 names w := by
  intro os
  kernel_rfl
theorem run (w : World) : HandSHeadRun.RunEq Rw (PySem.W.view Rw.prog [50, 55, 56]) hk ob 100000 names w := Hx.run_join (run_0 w) (Hx.run_join (run_1 w) (run_2 w))
end K26
namespace DL
open PySem PySem.Spec L2 C8
/-! ### how the readings unfold -/
section
variable {ρ : EnvD} {h : AH} {Q : KD} {X : KX} {D0 : EndsD} {a b c : WE} {s1 s2 : WS} {t u : WT} {i j : Int} {m : Bool} {xs : List D} {d x y z : D}
theorem u_seq : wSeq s1 s2 D0 ρ h = s1 { D0 with nx := s2 D0 } ρ h := rfl
theorem u_asg {g : WG} : wAsg a g D0 ρ h = a ρ h (fun x h1 => g x ρ h1 D0.nx D0.ex) D0.ex := rfl
theorem u_gN {n : Nat} {Q : EnvD → AH → Prop} : gN n d ρ h Q X = Q (ρ.set n (some d)) h := rfl
theorem u_ret : wRet a D0 ρ h = a ρ h D0.rt D0.ex := rfl
theorem u_retN : wRetN D0 ρ h = D0.rt .non h := rfl
theorem u_skip : wSkip D0 ρ h = D0.nx ρ h := rfl
theorem u_expr : wExpr a D0 ρ h = a ρ h (fun _ h1 => D0.nx ρ h1) D0.ex := rfl
theorem u_ifs : wIfS t s1 s2 D0 ρ h = t ρ h (fun c h1 => if c = true then s1 D0 ρ h1 else s2 D0 ρ h1) D0.ex := rfl
theorem u_c : wC d ρ h Q X = Q d h := rfl
theorem u_var {n : Nat} (e : ρ[n]? = some (some d)) : wVar n ρ h Q X = Q d h := by simp [wVar, e]
theorem u_op {f : D → D → AH → KD → Prop} : wOp f a b ρ h Q X = a ρ h (fun x h1 => b ρ h1 (fun y h2 => f x y h2 Q) X) X := rfl
theorem u_neg : wNeg a ρ h Q X = a ρ h (fun x h1 => match x with
  | .int i => Q (.int (-i)) h1
  | _ => False) X := rfl
theorem u_test {Q : Bool → AH → Prop} : wTest a ρ h Q X = a ρ h (fun x h1 => match x with
  | .bl b => Q b h1
  | _ => False) X := rfl
theorem u_and {Q : Bool → AH → Prop} : wAnd t u ρ h Q X = t ρ h (fun c h1 => if c = true then u ρ h1 Q X else Q false h1) X := rfl
theorem u_or {Q : Bool → AH → Prop} : wOr t u ρ h Q X = t ρ h (fun c h1 => if c = true then Q true h1 else u ρ h1 Q X) X := rfl
theorem u_not {Q : Bool → AH → Prop} : wNot t ρ h Q X = t ρ h (fun c h1 => Q (!c) h1) X := rfl
theorem u_if : wIf t a b ρ h Q X = t ρ h (fun c h1 => if c = true then a ρ h1 Q X else b ρ h1 Q X) X := rfl
theorem u_nil {Q : List D → AH → Prop} : wNil ρ h Q X = Q [] h := rfl
theorem u_cons {r : WA} {Q : List D → AH → Prop} : wCons a r ρ h Q X = a ρ h (fun x h1 => r ρ h1 (fun xs h2 => Q (x :: xs) h2) X) X := rfl
theorem u_tup {l : WA} : wTup l ρ h Q X = l ρ h (fun xs h1 => xs.length ≤ sizeLine ∧ Q (.tup xs) h1) X := rfl
theorem u_lst {l : WA} : wLst m l ρ h Q X = l ρ h (fun xs h1 => xs.length ≤ sizeLine ∧ newL m xs h1 Q) X := rfl
theorem u_callP {S : FSpec} {n : Nat} {g : List D → List D → List D} {l : WA} : wCallP S n g l ρ h Q X = l ρ h (fun ds h1 => ds.length = n ∧ S (g ds []) h1 Q X) X := rfl
theorem u_call {S : FSpec} {n k : Nat} {g : List D → List D → List D} {l r : WA} : wCall S n k g l r ρ h Q X = l ρ h (fun ds h1 => r ρ h1 (fun zs h2 => ds.length = n ∧ zs.length = k ∧ S (g ds zs) h2 Q X) X) X := rfl
theorem u_b {r : List D → AH → KD → Prop} {l : WA} : wB r l ρ h Q X = l ρ h (fun xs h1 => r xs h1 Q) X := rfl
theorem u_chain {f g : D → D → AH → KD → Prop} : wChain f g a b c ρ h Q X = a ρ h (fun x h1 => b ρ h1 (fun y h2 => f x y h2 fun z h3 => match z with
  | .bl k => if k = true then c ρ h3 (fun u h4 => g y u h4 Q) X else Q (.bl false) h3
  | _ => False) X) X := rfl
theorem u_andV : wAndV a b ρ h Q X = a ρ h (fun x h1 => match x with
  | .bl k => if k = true then b ρ h1 Q X else Q (.bl false) h1
  | _ => False) X := rfl
theorem u_addI : dAdd m (.int i) (.int j) h Q = Q (.int (i + j)) h := rfl
theorem u_subI : dSub (.int i) (.int j) h Q = Q (.int (i - j)) h := rfl
theorem u_mulI : dMul m (.int i) (.int j) h Q = (MulOk i j ∧ Q (.int (i * j)) h) := rfl
theorem u_divI : dDiv (.int i) (.int j) h Q = (DivOk j ∧ Q (.int (i / j)) h) := rfl
theorem u_modI : dMod (.int i) (.int j) h Q = (0 < j ∧ Q (.int (i % j)) h) := rfl
theorem u_powI : dPow (.int i) (.int j) h Q = (PowOk i j ∧ Q (.int (i ^ j.toNat)) h) := rfl
theorem u_cmpI {f : Int → Int → Bool} : dCmpI f (.int i) (.int j) h Q = Q (.bl (f i j)) h := rfl
theorem u_eqI {f : Bool → Bool} : dEq f (.int i) (.int j) h Q = Q (.bl (f (decide (i = j)))) h := rfl
theorem u_eqS {f : Bool → Bool} {i j : Str} : dEq f (.str i) (.str j) h Q = Q (.bl (f (decide (i = j)))) h := rfl
theorem u_eqB {f : Bool → Bool} {i j : Bool} : dEq f (.bl i) (.bl j) h Q = Q (.bl (f (decide (i = j)))) h := rfl
theorem u_ixL : dIx (.lst xs) (.int i) h Q = ∃ d, atI xs i = some d ∧ Q d h := by simp [dIx, seqOf, lstOf]
theorem u_ixT : dIx (.tup xs) (.int i) h Q = ∃ d, atI xs i = some d ∧ Q d h := by simp [dIx, seqOf]
theorem u_ixR {p : Addr} (e : h p = some (.lst xs)) : dIx (.ref p) (.int i) h Q = ∃ d, atI xs i = some d ∧ Q d h := by simp [dIx, seqOf, lstOf, e]
theorem u_ixLd (e : atI xs i = some d) : dIx (.lst xs) (.int i) h Q = Q d h := by simp [u_ixL, e]
theorem u_ixTd (e : atI xs i = some d) : dIx (.tup xs) (.int i) h Q = Q d h := by simp [u_ixT, e]
theorem u_ixRd {p : Addr} (e : h p = some (.lst xs)) (e2 : atI xs i = some d) : dIx (.ref p) (.int i) h Q = Q d h := by simp [u_ixR e, e2]
theorem at0 : atI (x :: xs) 0 = some x := by simp [atI, ixN]
theorem at1 : atI (x :: y :: xs) 1 = some y := by
  have : (1 : Int) < (xs.length : Int) + 1 + 1 := by omega
  simp [atI, ixN, this]
theorem at2 : atI (x :: y :: z :: xs) 2 = some z := by
  have : (2 : Int) < (xs.length : Int) + 1 + 1 + 1 := by omega
  simp [atI, ixN, this]
theorem u_abs : dAbs [.int i] h Q = Q (.int (if i < 0 then -i else i)) h := rfl
theorem u_intI : dInt [.int i] h Q = Q (.int i) h := rfl
theorem u_intB {k : Bool} : dInt [.bl k] h Q = Q (.int (if k then 1 else 0)) h := rfl
theorem u_lenL : dLen [.lst xs] h Q = Q (.int (xs.length : Nat)) h := by simp [dLen, lenD, cur]
theorem u_lenR {p : Addr} (e : h p = some (.lst xs)) : dLen [.ref p] h Q = Q (.int (xs.length : Nat)) h := by simp [dLen, lenD, cur, e]
theorem u_newT : newL true xs h Q = ∀ p, h p = none → Q (.ref p) (up h p (.lst xs)) := by simp [newL]
theorem u_newF : newL false xs h Q = Q (.lst xs) h := by simp [newL]
theorem u_isN : dIsN (fun b => b) .non .non h Q = Q (.bl true) h := rfl
theorem u_notN : dIsN (fun b => !b) .non .non h Q = Q (.bl false) h := rfl
end
/-! ### == of lists -/
theorem pd_ints (cs : List Int) : pds (cs.map D.int) = cs.map PyData.int := by
  induction cs with
  | nil => rfl
  | cons c cs ih => rw [List.map_cons, pds, ih, pd]; rfl
theorem dats_ints (cs : List Int) : dats (cs.map D.int) = true := by
  induction cs with
  | nil => rfl
  | cons c cs ih => rw [List.map_cons, dats, ih]; rfl
theorem lay_ints (cs : List Int) : PyData.canLayAll0 (cs.map PyData.int) = true := by
  induction cs with
  | nil => rw [List.map_nil, PyData.canLayAll0]
  | cons c cs ih => rw [List.map_cons, PyData.canLayAll0, ih, PyData.canLay0]; rfl
theorem dep_ints (cs : List Int) : PyData.depthAll (cs.map PyData.int) = 0 := by
  induction cs with
  | nil => rw [List.map_nil, PyData.depthAll]
  | cons c cs ih => rw [List.map_cons, PyData.depthAll, ih, PyData.depth]; rfl
theorem sh_lst (cs : List Int) : SeqAt.shaped (pd (.lst (cs.map D.int))) = true := by
  rw [pd, pd_ints]; unfold SeqAt.shaped
  rw [PyData.canLay0, PyData.depth, lay_ints, dep_ints]; rfl
theorem eqv_ints : ∀ cs ds : List Int, PyData.eqvAll (cs.map PyData.int) (ds.map PyData.int) = decide (cs = ds)
  | [], [] => by rw [List.map_nil, PyData.eqvAll]; rfl
  | [], d :: ds => by rw [List.map_nil, List.map_cons, PyData.eqvAll]; rfl
  | c :: cs, [] => by rw [List.map_nil, List.map_cons, PyData.eqvAll]; rfl
  | c :: cs, d :: ds => by
    rw [List.map_cons, List.map_cons, PyData.eqvAll, PyData.eqv, eqv_ints cs ds]
    by_cases e : c = d <;> simp [e]
theorem eq_lst {f : Bool → Bool} {cs ds : List Int} {h : AH} {Q : KD} (q : Q (.bl (f (decide (cs = ds)))) h) : dEq f (.lst (cs.map D.int)) (.lst (ds.map D.int)) h Q := by
  refine ⟨by show dats _ = true; exact dats_ints cs, by show dats _ = true; exact dats_ints ds, sh_lst cs, sh_lst ds, ?_⟩
  show Q (.bl (f (PyData.eqv (pd (.lst (cs.map D.int))) (pd (.lst (ds.map D.int)))))) h
  rw [pd, pd, PyData.eqv, pd_ints, pd_ints, eqv_ints]; exact q
theorem eq_nil {f : Bool → Bool} {cs : List Int} {h : AH} {Q : KD} (q : Q (.bl (f (decide (cs = [])))) h) : dEq f (.lst (cs.map D.int)) (.lst []) h Q := eq_lst (ds := []) q
/-- a statement, then the rest, over what stands between -/
theorem seq_go {s1 s2 : WS} {D0 : EndsD} {ρ : EnvD} {h : AH} (P : EnvD → AH → Prop) (h1 : ∀ K : EnvD → AH → Prop, (∀ ρ h, P ρ h → K ρ h) → s1 { D0 with nx := K } ρ h) (h2 : ∀ ρ h, P ρ h → s2 D0 ρ h) : wSeq s1 s2 D0 ρ h := h1 _ h2
theorem loop_go {st : AH → Prop} {g : WG} {tb : WS} {Z : EndsD} {xs : List D} {ρ : EnvD} {h : AH} (P : Nat → EnvD → AH → Prop) (h0 : P 0 ρ h) (hst : ∀ i ρ h, P i ρ h → st h)
    (hs : ∀ i x ρ h (K : EnvD → AH → Prop), xs[i]? = some x → P i ρ h → (∀ ρ h, P (i + 1) ρ h → K ρ h) → g x ρ h (fun ρ2 h2 => tb { Z with nx := K, ct := K, bk := Z.nx } ρ2 h2) Z.ex) (hd : ∀ ρ h, P xs.length ρ h → Z.nx ρ h) : loopD st g tb Z xs ρ h := by
  suffices H : ∀ (n i : Nat), xs.length - i = n → i ≤ xs.length → ∀ ρ h, P i ρ h → loopD st g tb Z (xs.drop i) ρ h by
    simpa using H xs.length 0 (by simp) (Nat.zero_le _) ρ h h0
  intro n
  induction n with
  | zero =>
    intro i e l ρ h p
    obtain rfl : i = xs.length := by omega
    rw [List.drop_length]
    exact ⟨hst _ _ _ p, hd _ _ p⟩
  | succ n ih =>
    intro i e l ρ h p
    have lt : i < xs.length := by omega
    rw [List.drop_eq_getElem_cons lt]
    exact ⟨hst _ _ _ p, hs i _ ρ h (loopD st g tb Z (xs.drop (i + 1))) (List.getElem?_eq_getElem lt) p fun ρ h q => ih (i + 1) (by omega) lt ρ h q⟩
/-- a comprehension: P by the turn and the heap -/
theorem comp_go {st : AH → Prop} {g : WG} {tt : WT} {te : WE} {vs : List Nat} {ρ : EnvD} {p : Addr} {xs : List D} {h : AH} {Q : AH → Prop} (P : Nat → AH → Prop) (h0 : P 0 h) (hst : ∀ i h, P i h → st h)
    (hs : ∀ i x h (K : AH → Prop), xs[i]? = some x → P i h → (∀ h, P (i + 1) h → K h) → g x (wipeD ρ vs) h (fun ρ2 h2 => tt ρ2 h2 (fun b h3 => if b = true then te ρ2 h3 (fun y h4 => ∃ acc, h4 p = some (.lst acc) ∧ acc.length < sizeLine ∧ K (up h4 p (.lst (acc ++ [y])))) (fun _ _ => False) else K h3) (fun _ _ => False)) (fun _ _ => False))
    (hd : ∀ h, P xs.length h → Q h) : compD st g tt te vs ρ p xs h Q := by
  suffices H : ∀ (n i : Nat), xs.length - i = n → i ≤ xs.length → ∀ h, P i h → compD st g tt te vs ρ p (xs.drop i) h Q by
    simpa using H xs.length 0 (by simp) (Nat.zero_le _) h h0
  intro n
  induction n with
  | zero =>
    intro i e l h p
    obtain rfl : i = xs.length := by omega
    rw [List.drop_length]
    exact ⟨hst _ _ p, hd _ p⟩
  | succ n ih =>
    intro i e l h q
    have lt : i < xs.length := by omega
    rw [List.drop_eq_getElem_cons lt]
    exact ⟨hst _ _ q, hs i _ h (fun h => compD st g tt te vs ρ p (xs.drop (i + 1)) h Q) (List.getElem?_eq_getElem lt) q fun h z => ih (i + 1) (by omega) lt h z⟩
/-- .. where the heap is as it was but for the new list, whose items come one by one: f item or none -/
theorem comp_pure {st : AH → Prop} {g : WG} {tt : WT} {te : WE} {vs : List Nat} {ρ : EnvD} {p : Addr} {xs : List D} {h : AH} {Q : AH → Prop} (f : D → Option D) (hst : ∀ acc, st (up h p (.lst acc))) (hl : xs.length ≤ sizeLine)
    (hs : ∀ x acc (K : AH → Prop), x ∈ xs → acc.length < sizeLine → K (up h p (.lst (acc ++ (f x).toList))) → g x (wipeD ρ vs) (up h p (.lst acc)) (fun ρ2 h2 => tt ρ2 h2 (fun b h3 => if b = true then te ρ2 h3 (fun y h4 => ∃ acc, h4 p = some (.lst acc) ∧ acc.length < sizeLine ∧ K (up h4 p (.lst (acc ++ [y])))) (fun _ _ => False) else K h3) (fun _ _ => False)) (fun _ _ => False))
    (hd : Q (up h p (.lst (xs.filterMap f)))) : compD st g tt te vs ρ p xs (up h p (.lst [])) Q := by
  refine comp_go (fun i h' => ∃ acc, acc = (xs.take i).filterMap f ∧ h' = up h p (.lst acc)) ⟨[], by simp, rfl⟩ (fun i h' ⟨acc, _, e⟩ => e ▸ hst acc) ?_ ?_
  · rintro i x h' K e ⟨acc, rfl, rfl⟩ k
    have li := (List.getElem?_eq_some_iff.mp e).1
    refine hs x _ K (List.mem_of_getElem? e) ?_ (k _ ⟨_, ?_, rfl⟩)
    · have := List.length_filterMap_le f (xs.take i)
      simp at this; omega
    · rw [List.take_succ, e, Option.toList_some, List.filterMap_append]
      congr 1
  · rintro h' ⟨acc, rfl, rfl⟩
    rw [List.take_length]
    exact hd
end DL
namespace DL
open PySem PySem.Spec L2 C8
/-! ### the pen: cells, where it stands, what is left of a great cell -/
def PenO (n : Int) (o : AO) : Prop := ∃ (cs : List Int) (at_ gr : Int), o = .lst [.lst (cs.map D.int), .int at_, .int gr] ∧ cs.length ≤ 63 ∧ 0 ≤ at_ ∧ at_ ≤ n ∧ 0 ≤ gr
def PenAt (n : Int) (h : AH) (p : Addr) : Prop := ∃ o, h p = some o ∧ PenO n o
theorem PenO.mono {n m : Int} {o : AO} (h : PenO n o) (l : n ≤ m) : PenO m o := by
  obtain ⟨cs, a, g, rfl, l1, l2, l3, l4⟩ := h
  exact ⟨cs, a, g, rfl, l1, l2, by omega, l4⟩
def S_draw : FSpec := fun ds h Q _ => ∃ (n : Int) (p : Addr) (m : Int), ds = [.ref p, .int m] ∧ PenAt n h p ∧ n < 1000000 ∧ DivOk m ∧ ∀ v o, 0 ≤ v → v < m → PenO (n + 1) o → Q (.int v) (up h p o)
theorem mo_draw : MoF S_draw := fun ds h Q Q' X X' hq _ ⟨n, p, m, e, e1, e2, e3, q⟩ => ⟨n, p, m, e, e1, e2, e3, fun v o h1 h2 h3 => hq _ _ (q v o h1 h2 h3)⟩
theorem len_draw : ∀ ds h Q X, S_draw ds h Q X → ds.length = 2 := fun ds h Q X ⟨n, p, m, e, _⟩ => by rw [e]; rfl
def S_pen : FSpec := fun ds h Q _ => ∃ js : List Int, ds = [.lk (js.map D.int)] ∧ ∀ p o, h p = none → PenO 0 o → Q (.ref p) (up h p o)
theorem mo_pen : MoF S_pen := fun ds h Q Q' X X' hq _ ⟨js, e, q⟩ => ⟨js, e, fun p o h1 h2 => hq _ _ (q p o h1 h2)⟩
theorem len_pen : ∀ ds h Q X, S_pen ds h Q X → ds.length = 1 := fun ds h Q X ⟨js, e, _⟩ => by rw [e]; rfl
def w_pen : WS := (wRet (wLst true (wCons (wB (dListOf false) (wCons (wSl false (wVar 0) woNone (woSome (wC (.int 63)))) wNil)) (wCons (wC (.int 0)) (wCons (wC (.int 0)) wNil)))))
theorem cut_to {α : Type} (xs : List α) (n : Nat) : cutD xs none (some (n : Int)) = xs.take n := by
  unfold cutD
  have e0 : HT.sIx xs.length 0 none = 0 := rfl
  rw [e0, List.drop_zero, Nat.sub_zero]
  rw [HT.sIx_nat]
  exact List.take_eq_take_min.symm
theorem p_pen : ∀ ds h Q X, S_pen ds h Q X → w_pen (endsD Q X) (startD 1 ds) h := by
  rintro ds h Q X ⟨js, rfl, q⟩
  show w_pen (endsD Q X) [some (.lk (js.map D.int))] h
  simp only [w_pen, u_asg, u_gN, u_ret, u_retN, u_skip, u_expr, u_ifs, u_c, u_op, u_neg, u_test, u_and, u_or, u_not, u_if, u_nil, u_cons, u_tup, u_lst, u_callP, u_call, u_b, u_chain, u_andV, u_addI, u_subI, u_mulI, u_divI, u_modI, u_powI, u_cmpI, u_eqI, u_eqS, u_eqB, u_abs, u_intI, u_intB, u_newT, u_newF, u_isN, u_notN, wVar, List.set_cons_zero, List.set_cons_succ, List.getElem?_cons_zero, List.getElem?_cons_succ, List.length_cons, List.length_nil, wSl, woNone, woSome, dSl, dListOf]
  refine ⟨_, _, rfl, rfl, (by decide : 3 ≤ sizeLine), fun p hp => fin_of (q p _ hp ⟨js.take 63, 0, 0, ?_, by simp; omega, by omega, by omega, by omega⟩)⟩
  rw [show (63 : Int) = ((63 : Nat) : Int) by rfl, cut_to, List.map_take]
theorem atI_nat {α : Type} {xs : List α} {j : Nat} (h : j < xs.length) : atI xs (j : Int) = xs[j]? := by
  have h1 : ixN xs.length (j : Int) = some j := by
    unfold ixN
    simp; omega
  unfold atI
  rw [h1]; rfl
theorem mul_l {i j : Int} (h : -(2 ^ 64) < i ∧ i < 2 ^ 64) : MulOk i j := .inl h
theorem sq_le {a b : Int} (h0 : 0 ≤ a) (h : a ≤ b) : a * a ≤ b * b := Int.mul_le_mul h h h0 (by omega)
end DL
namespace DL
open PySem PySem.Spec L2 C8
section
variable {ρ : EnvD} {h : AH} {Q : KD} {X : KX} {D0 : EndsD} {xs : List D} {p q : Addr} {o u : AO}
theorem endF (hp : h p = none) (k : Q (.lst xs) h) : endL false p Q (up h p (.lst xs)) := ⟨xs, up_same, by rw [rm_up, rm_none hp]; exact k⟩
theorem u_lc {m : Bool} {wi : WI} {g : WG} {tt : WT} {te : WE} {vs : List Nat} : wLc m wi g tt te vs ρ h Q X = wi ρ h (fun xs st h1 => ∀ p, h1 p = none → compD st g tt te vs ρ p xs (up h1 p (.lst [])) (endL m p Q)) X := rfl
theorem u_for {wi : WI} {g : WG} {tb : WS} : wFor wi g tb D0 ρ h = wi ρ h (fun xs st h1 => loopD st g tb D0 xs ρ h1) D0.ex := rfl
theorem u_r1 {l : WA} {R : List D → (AH → Prop) → AH → Prop} : iRng1 l ρ h R X = l ρ h (fun ds h1 => match ds with
  | [.int j] => -(2 ^ 62) ≤ j ∧ j < 2 ^ 62 ∧ R (intsD 0 j.toNat) (fun _ => True) h1
  | _ => False) X := rfl
theorem u_r2 {l : WA} {R : List D → (AH → Prop) → AH → Prop} : iRng2 l ρ h R X = l ρ h (fun ds h1 => match ds with
  | [.int i, .int j] => (-(2 ^ 62) ≤ i ∧ i < 2 ^ 62 ∧ -(2 ^ 62) ≤ j ∧ j < 2 ^ 62) ∧ R (intsD i (j - i).toNat) (fun _ => True) h1
  | _ => False) X := rfl
theorem u_r3 {l : WA} {R : List D → (AH → Prop) → AH → Prop} : iRng3 l ρ h R X = l ρ h (fun ds h1 => match ds with
  | [.int i, .int j, .int c] => ∃ n, RgC i j c n ∧ R (stepD i c n) (fun _ => True) h1
  | _ => False) X := rfl
theorem u_seqi {a : WE} {R : List D → (AH → Prop) → AH → Prop} : iSeq a ρ h R X = a ρ h (fun x h1 => match x with
  | .lst xs => R xs (fun _ => True) h1
  | .ref a => ∃ xs, h1 a = some (.lst xs) ∧ R xs (fun h => h a = some (.lst xs)) h1
  | _ => False) X := rfl
theorem u_tupi {a : WE} {R : List D → (AH → Prop) → AH → Prop} : iTupD a ρ h R X = a ρ h (fun x h1 => match x with
  | .tup xs => R xs (fun _ => True) h1
  | .tpl xs => R xs (fun _ => True) h1
  | _ => False) X := rfl
theorem u_num {l : WA} {R : List D → (AH → Prop) → AH → Prop} : iNum l ρ h R X = l ρ h (fun ds h1 => match ds with
  | [.tup xs] => R (numD xs) (fun _ => True) h1
  | _ => False) X := rfl
theorem u_notV {a : WE} : wNotV a ρ h Q X = a ρ h (fun x h1 => match x with
  | .bl b => Q (.bl (!b)) h1
  | _ => False) X := rfl
theorem u_yes {Q : Bool → AH → Prop} : wYes ρ h Q X = Q true h := rfl
theorem u_w0 : wipeD ρ [] = ρ := rfl
theorem u_w1 {v : Nat} {vs : List Nat} : wipeD ρ (v :: vs) = (wipeD ρ vs).set v none := rfl
end
theorem at_nth {es : List Int} {k : Nat} (h : k < es.length) : atI (es.map D.int) (k : Int) = some (.int (es.getD k 0)) := by
  rw [atI_nat (by rw [List.length_map]; exact h), List.getElem?_map, List.getElem?_eq_getElem h, List.getD_eq_getElem?_getD, List.getElem?_eq_getElem h]
  rfl
/-! ### how long a repr is -/
theorem txt_len (ts : List Str) : ∀ (k : Nat) (acc : Str), (textFrom k acc ts).length ≤ acc.length + (ts.map fun t => t.length + 2).sum := by
  induction ts with
  | nil => intro k acc; exact Nat.le_add_right _ _
  | cons t ts ih =>
    intro k acc
    have h := ih (k + 1) (acc ++ (if k > 0 then ", " else "" : String) ++ t)
    rw [Str.length_append, Str.length_append] at h
    have l2 : ((if k > 0 then ", " else "" : String) : Str).length ≤ 2 := by split <;> decide
    show (textFrom (k + 1) _ ts).length ≤ _
    rw [List.map_cons, List.sum_cons]
    omega
theorem lst_len (ts : List Str) : (listText ts).length ≤ 2 + (ts.map fun t => t.length + 2).sum := by
  have h := txt_len ts 0 "["
  unfold listText
  rw [Str.length_append]
  have l1 : (("[" : String) : Str).length = 1 := by decide
  have l2 : (("]" : String) : Str).length = 1 := by decide
  omega
theorem tup_len (ts : List Str) : (tupleText ts).length ≤ 3 + (ts.map fun t => t.length + 2).sum := by
  unfold tupleText
  rw [Str.length_append, Str.length_append]
  have l1 : (("(" : String) : Str).length = 1 := by decide
  have l2 : ((if ts.length == 1 then ",)" else ")" : String) : Str).length ≤ 2 := by split <;> decide
  by_cases e : ts = []
  · subst e
    have l3 : (Str.join ", " ([] : List Str)).length = 0 := by decide
    simp at l2 ⊢
    omega
  · have l3 := join_length_add ts e
    unfold piled at l3
    omega
theorem lg_lt {n k : Nat} (h : n < 2 ^ k) (hk : 0 < k) : n.log2 < k := by
  by_cases e : n = 0
  · subst e; exact hk
  · exact (Nat.log2_lt e).mpr h
theorem int_len {i : Int} {k : Nat} (hk : 0 < k) (h : i.natAbs < 2 ^ k) : (PyData.int i).shown.length ≤ k + 1 := by
  rw [PyData.shown]
  have e := int_text_length_le (a := i) hk (lg_lt h hk)
  show (Str.ofString (toString i)).length ≤ k + 1
  rw [ofString_length]; exact e
theorem all_len {ds : List PyData} {c : Nat} (h : ∀ d ∈ ds, d.shown.length ≤ c) : ((PyData.shownAll ds).map fun t => t.length + 2).sum ≤ ds.length * (c + 2) := by
  induction ds with
  | nil => rw [PyData.shownAll]; exact Nat.zero_le _
  | cons d ds ih =>
    rw [PyData.shownAll, List.map_cons, List.sum_cons, List.length_cons, Nat.add_mul]
    have h1 := h d (List.mem_cons_self ..)
    have h2 := ih fun e he => h e (List.mem_cons_of_mem _ he)
    omega
theorem len_of {h : AH} {x : D} {xs : List D} {Q : KD} (e : lstOf h x = some xs) (q : Q (.int (xs.length : Nat)) h) : dLen [x] h Q := by
  cases x with
  | lst ys =>
    obtain rfl : ys = xs := Option.some.inj e
    rw [u_lenL]; exact q
  | ref a =>
    unfold lstOf at e
    dsimp only at e
    cases z : h a with
    | none => rw [z] at e; cases e
    | some o =>
      rw [z] at e
      cases o with
      | lst ys =>
        obtain rfl : ys = xs := Option.some.inj e
        rw [u_lenR z]; exact q
      | _ => cases e
  | _ => cases e
end DL
namespace DL
open PySem PySem.Spec L2 C8
/-! ### repr of rows of small things -/
structure Rp (x : D) (k n : Nat) : Prop where
  da : dat x = true
  sh : (pd x).showable = true
  de : (pd x).depth ≤ k
  le : (pd x).shown.length ≤ n
theorem rp_go {x : D} {k n : Nat} {h : AH} {Q : KD} (r : Rp x k n) (hk : k ≤ 60) (hn : n ≤ 16000000) (c : cur h x = x) (q : Q (.str (pd x).shown) h) : dRepr [x] h Q :=
  ⟨x, rfl, by rw [c]; exact r.da, by rw [c]; exact r.sh, by rw [c]; exact Nat.le_trans r.de hk, by rw [c]; exact Nat.le_trans r.le (Nat.le_trans hn (by decide)), by rw [c]; exact q⟩
theorem rp_int {i : Int} {j : Nat} (hj : 0 < j) (hj2 : j ≤ 1900) (h : i.natAbs < 2 ^ j) : Rp (.int i) 0 (j + 1) :=
  ⟨rfl, by rw [pd, PyData.showable]; exact decide_eq_true (Nat.lt_of_lt_of_le (lg_lt h hj) (Nat.le_trans hj2 (by decide))), by rw [pd, PyData.depth]; exact Nat.le_refl _, by rw [pd]; exact int_len hj h⟩
theorem Rp.up {x : D} {k n l m : Nat} (r : Rp x k n) (h1 : k ≤ l) (h2 : n ≤ m) : Rp x l m := ⟨r.da, r.sh, Nat.le_trans r.de h1, Nat.le_trans r.le h2⟩
theorem rps {k n : Nat} : ∀ {xs : List D}, (∀ x ∈ xs, Rp x k n) → dats xs = true ∧ PyData.showableAll (pds xs) = true ∧ PyData.depthAll (pds xs) ≤ k ∧ ∀ d ∈ pds xs, d.shown.length ≤ n
  | [], _ => ⟨rfl, by rw [pds, PyData.showableAll], by rw [pds, PyData.depthAll]; exact Nat.zero_le _, fun d hd => by rw [pds] at hd; cases hd⟩
  | x :: xs, h => by
    obtain ⟨h1, h2, h3, h4⟩ := rps fun y hy => h y (List.mem_cons_of_mem _ hy)
    have r := h x (List.mem_cons_self ..)
    refine ⟨by rw [dats, r.da, h1]; rfl, by rw [pds, PyData.showableAll, r.sh, h2]; rfl, by rw [pds, PyData.depthAll]; exact Nat.max_le.mpr ⟨r.de, h3⟩, fun d hd => ?_⟩
    rw [pds] at hd
    rcases List.mem_cons.mp hd with rfl | hd
    · exact r.le
    · exact h4 d hd
theorem pds_len (xs : List D) : (pds xs).length = xs.length := by rw [pds_map, List.length_map]
theorem rp_lst {k n l : Nat} {xs : List D} (h : ∀ x ∈ xs, Rp x k n) (hl : xs.length ≤ l) : Rp (.lst xs) (k + 1) (2 + l * (n + 2)) := by
  obtain ⟨h1, h2, h3, h4⟩ := rps h
  refine ⟨h1, by rw [pd, PyData.showable]; exact h2, by rw [pd, PyData.depth]; omega, ?_⟩
  rw [pd, PyData.shown]
  refine Nat.le_trans (lst_len _) ?_
  have := all_len h4
  rw [pds_len] at this
  have := Nat.mul_le_mul_right (n + 2) hl
  omega
theorem rp_tup {k n l : Nat} {xs : List D} (h : ∀ x ∈ xs, Rp x k n) (hl : xs.length ≤ l) : Rp (.tup xs) (k + 1) (3 + l * (n + 2)) := by
  obtain ⟨h1, h2, h3, h4⟩ := rps h
  refine ⟨h1, by rw [pd, PyData.showable]; exact h2, by rw [pd, PyData.depth]; omega, ?_⟩
  rw [pd, PyData.shown]
  refine Nat.le_trans (tup_len _) ?_
  have := all_len h4
  rw [pds_len] at this
  have := Nat.mul_le_mul_right (n + 2) hl
  omega
end DL
namespace DL
open PySem PySem.Spec L2 C8
/-! ### the heap while a pen is drawn from: what stood in h0 stands, the pen apart -/
structure Inv0 (h0 : AH) (p : Addr) (m : Int) (h : AH) : Prop where
  pen : PenAt m h p
  old : ∀ b o, h0 b = some o → b ≠ p → h b = some o
  isp : ∃ o, h0 p = some o
section
variable {h0 h : AH} {p q : Addr} {m n : Int} {o : AO} {Q : KD} {X : KX}
theorem Inv0.start (e : PenAt m h p) : Inv0 h p m h := ⟨e, fun _ _ e _ => e, let ⟨o, e, _⟩ := e; ⟨o, e⟩⟩
theorem Inv0.mono (I : Inv0 h0 p m h) (l : m ≤ n) : Inv0 h0 p n h := ⟨let ⟨o, e, r⟩ := I.pen; ⟨o, e, r.mono l⟩, I.old, I.isp⟩
theorem Inv0.draw (I : Inv0 h0 p m h) (r : PenO n o) : Inv0 h0 p n (up h p o) := ⟨⟨o, up_same, r⟩, fun b u e c => by rw [up_ne c]; exact I.old b u e c, I.isp⟩
theorem Inv0.fresh (I : Inv0 h0 p m h) (e : h q = none) : h0 q = none ∧ q ≠ p := by
  obtain ⟨u, eu, _⟩ := I.pen
  have c : q ≠ p := by rintro rfl; rw [e] at eu; cases eu
  refine ⟨?_, c⟩
  cases z : h0 q with
  | none => rfl
  | some w => rw [I.old _ _ z c] at e; cases e
theorem Inv0.put (I : Inv0 h0 p m h) (e : h0 q = none) : Inv0 h0 p m (up h q o) := by
  have c : q ≠ p := by rintro rfl; obtain ⟨u, z⟩ := I.isp; rw [e] at z; cases z
  obtain ⟨u, eu, r⟩ := I.pen
  exact ⟨⟨u, by rw [up_ne c.symm]; exact eu, r⟩, fun b w z d => by rw [up_ne (by rintro rfl; rw [e] at z; cases z)]; exact I.old b w z d, I.isp⟩
theorem Inv0.new (I : Inv0 h0 p m h) (e : h q = none) : Inv0 h0 p m (up h q o) := I.put (I.fresh e).1
theorem Inv0.sub (I : Inv0 h0 p m h) : ∃ o, PenO m o ∧ Sub (up h0 p o) h := by
  obtain ⟨u, eu, r⟩ := I.pen
  refine ⟨u, r, fun b w z => ?_⟩
  by_cases c : b = p
  · subst c; rw [up_same] at z; cases z; exact eu
  · rw [up_ne c] at z; exact I.old _ _ z c
theorem draw_go {c : Int} (I : Inv0 h0 p m h) (lm : m < 1000000) (dc : DivOk c) (k : ∀ v o, 0 ≤ v → v < c → Inv0 h0 p (m + 1) (up h p o) → (∀ q, q ≠ p → up h p o q = h q) → Q (.int v) (up h p o)) : S_draw [.ref p, .int c] h Q X :=
  ⟨m, p, c, rfl, I.pen, lm, dc, fun v o h1 h2 r => k v o h1 h2 (I.draw r) fun q hq => up_ne hq⟩
end
theorem div_ok {c : Int} (h : 0 < c) (h2 : c < 1073741824) : DivOk c := ⟨h, .inl h2⟩
/-! ### dicts of ints -/
def toK (es : List (Int × Int)) : List (Key × D) := es.map fun e => ((Sum.inl e.1 : Key), D.int e.2)
theorem dk_ref {h : AH} {a : Addr} {kvs : List (Key × D)} (e : h a = some (.dK kvs)) : dkOf h (.ref a) = some kvs := by
  simp [dkOf, e]
theorem lst_ref {h : AH} {a : Addr} {xs : List D} (e : h a = some (.lst xs)) : lstOf h (.ref a) = some xs := by
  simp [lstOf, e]
theorem seq_ref {h : AH} {a : Addr} {xs : List D} (e : h a = some (.lst xs)) : seqOf h (.ref a) = some xs := by
  simp [seqOf, lstOf, e]
/-- one of a list of ints -/
theorem at_some {es : List Int} {v : Int} {h : AH} {Q : KD} (h0 : 0 ≤ v) (h1 : v < es.length) (q : ∀ u ∈ es, Q (.int u) h) : dIx (.lst (es.map D.int)) (.int v) h Q := by
  obtain ⟨k, rfl⟩ := Int.eq_ofNat_of_zero_le h0
  have lk : k < es.length := by omega
  refine ⟨_, _, rfl, at_nth lk, q _ ?_⟩
  rw [List.getD_eq_getElem?_getD, List.getElem?_eq_getElem lk]
  exact List.getElem_mem lk
theorem at_ref {es : List Int} {v : Int} {h : AH} {Q : KD} {a : Addr} (e : h a = some (.lst (es.map D.int))) (h0 : 0 ≤ v) (h1 : v < es.length) (q : ∀ u ∈ es, Q (.int u) h) : dIx (.ref a) (.int v) h Q := by
  obtain ⟨k, rfl⟩ := Int.eq_ofNat_of_zero_le h0
  have lk : k < es.length := by omega
  refine ⟨_, _, seq_ref e, at_nth lk, q _ ?_⟩
  rw [List.getD_eq_getElem?_getD, List.getElem?_eq_getElem lk]
  exact List.getElem_mem lk
end DL
namespace DL
open PySem PySem.Spec L2 C8
/-! ### defaults of keyword-only parameters -/
end DL
namespace DL
open PySem PySem.Spec L2 C8
/-! ### == of data that hold no text -/
structure Fl (x : D) (k : Nat) : Prop where
  da : dat x = true
  cl : (pd x).canLay0 = true
  de : (pd x).depth ≤ k
theorem fl_bl (b : Bool) : Fl (.bl b) 0 := ⟨rfl, by rw [pd, PyData.canLay0], by rw [pd, PyData.depth]; exact Nat.le_refl _⟩
theorem fl_int (i : Int) : Fl (.int i) 0 := ⟨rfl, by rw [pd, PyData.canLay0], by rw [pd, PyData.depth]; exact Nat.le_refl _⟩
theorem Fl.up {x : D} {k l : Nat} (r : Fl x k) (h : k ≤ l) : Fl x l := ⟨r.da, r.cl, Nat.le_trans r.de h⟩
theorem fls {k : Nat} : ∀ {xs : List D}, (∀ x ∈ xs, Fl x k) → dats xs = true ∧ PyData.canLayAll0 (pds xs) = true ∧ PyData.depthAll (pds xs) ≤ k
  | [], _ => ⟨rfl, by rw [pds, PyData.canLayAll0], by rw [pds, PyData.depthAll]; exact Nat.zero_le _⟩
  | x :: xs, h => by
    obtain ⟨h1, h2, h3⟩ := fls fun y hy => h y (List.mem_cons_of_mem _ hy)
    have r := h x (List.mem_cons_self ..)
    exact ⟨by rw [dats, r.da, h1]; rfl, by rw [pds, PyData.canLayAll0, r.cl, h2]; rfl, by rw [pds, PyData.depthAll]; exact Nat.max_le.mpr ⟨r.de, h3⟩⟩
theorem fl_lst {k : Nat} {xs : List D} (h : ∀ x ∈ xs, Fl x k) : Fl (.lst xs) (k + 1) := by
  obtain ⟨h1, h2, h3⟩ := fls h
  exact ⟨h1, by rw [pd, PyData.canLay0]; exact h2, by rw [pd, PyData.depth]; omega⟩
theorem fl_tup {k : Nat} {xs : List D} (h : ∀ x ∈ xs, Fl x k) : Fl (.tup xs) (k + 1) := by
  obtain ⟨h1, h2, h3⟩ := fls h
  exact ⟨h1, by rw [pd, PyData.canLay0]; exact h2, by rw [pd, PyData.depth]; omega⟩
theorem Fl.sh {x : D} {k : Nat} (r : Fl x k) (hk : k ≤ 64) : SeqAt.shaped (pd x) = true := by
  unfold SeqAt.shaped
  rw [r.cl, decide_eq_true (Nat.le_trans r.de hk)]; rfl
theorem Fl.eqv {x : D} {k : Nat} (r : Fl x k) : PyData.eqv (pd x) (pd x) = true := SeqAt.eqv_refl _ r.cl
theorem fl_pair (e : Int × Int) : Fl (pairD e) 1 := fl_tup fun x hx => by
  have : x = .int e.1 ∨ x = .int e.2 := by simpa using hx
  rcases this with rfl | rfl <;> exact fl_int _
theorem fl_pairs (es : List (Int × Int)) : ∀ x ∈ es.map pairD, Fl x 1 := fun x hx => by
  obtain ⟨e, _, rfl⟩ := List.mem_map.mp hx
  exact fl_pair e
section
variable {f : Bool → Bool} {xs ys : List D} {h : AH} {Q : KD} {k l : Nat} {a : Addr}
theorem same_tup (r : Fl (.tup xs) k) (hk : k ≤ 64) (q : Q (.bl (f true)) h) : dEq f (.tup xs) (.tup xs) h Q :=
  ⟨r.da, r.da, r.sh hk, r.sh hk, by show Q (.bl (f (PyData.eqv (pd (.tup xs)) (pd (.tup xs))))) h; rw [r.eqv]; exact q⟩
theorem fl_e : Fl (.lst []) 1 := fl_lst (k := 0) fun x hx => by cases hx
/-- a list, and the empty one -/
theorem nil_lst (r : Fl (.lst xs) k) (hk : k ≤ 64) (q : Q (.bl (f xs.isEmpty)) h) : dEq f (.lst xs) (.lst []) h Q := by
  refine ⟨r.da, rfl, r.sh hk, fl_e.sh (by decide), ?_⟩
  show Q (.bl (f (PyData.eqv (pd (.lst xs)) (pd (.lst []))))) h
  rw [pd, pd, PyData.eqv]
  cases xs with
  | nil => rw [pds, PyData.eqvAll]; exact q
  | cons x xs => rw [pds, pds, PyData.eqvAll]; exact q
theorem nil_ref (e : h a = some (.lst xs)) (r : Fl (.lst xs) k) (hk : k ≤ 64) (q : Q (.bl (f xs.isEmpty)) h) : dEq f (.ref a) (.lst []) h Q := by
  have c : cur h (.ref a) = .lst xs := by simp [cur, e]
  refine ⟨by rw [c]; exact r.da, rfl, by rw [c]; exact r.sh hk, fl_e.sh (by decide), ?_⟩
  rw [c]
  show Q (.bl (f (PyData.eqv (pd (.lst xs)) (pd (.lst []))))) h
  rw [pd, pd, PyData.eqv]
  cases xs with
  | nil => rw [pds, PyData.eqvAll]; exact q
  | cons x xs => rw [pds, pds, PyData.eqvAll]; exact q
end
end DL
namespace DL
open PySem PySem.Spec L2 C8
/-! ### attributes -/
def insOf (h : AH) : D → Option (Addr × List (Str × D))
  | .ob C fs => some (C, fs)
  | .ref a => match h a with
    | some (.ins C fs) => some (C, fs)
    | _ => none
  | _ => none
def putFD (f : Str) (d : D) : List (Str × D) → List (Str × D)
  | [] => [(f, d)]
  | (g, x) :: r => if g = f then (g, d) :: r else (g, x) :: putFD f d r
section
variable {K : PySem.W.Frag} {F : Hp} {h : AH} {H : Hp}
theorem RepF.look : ∀ {fs : List (Str × D)} {vs : List (Str × V)} {f : Str} {d : D}, RepF K F fs vs → fs.lookup f = some d → ∃ v, vs.lookup f = some v ∧ Rep K F d v
  | _, _, f, d, .nil, e => by simp at e
  | _, _, f, d, @RepF.cons _ _ k x v xs vs r t, e => by
    cases c : f == k with
    | true =>
      simp only [List.lookup_cons, c] at e ⊢
      cases e
      exact ⟨v, rfl, r⟩
    | false =>
      simp only [List.lookup_cons, c] at e ⊢
      exact RepF.look t e
theorem RepF.put {f : Str} {d : D} {v : V} (r : Rep K F d v) : ∀ {fs : List (Str × D)} {vs : List (Str × V)}, RepF K F fs vs → RepF K F (putFD f d fs) (putF f v vs)
  | _, _, .nil => .cons r .nil
  | _, _, @RepF.cons _ _ k x u xs us q t => by
    show RepF K F (if k = f then (k, d) :: xs else (k, x) :: putFD f d xs) (if k = f then (k, v) :: us else (k, u) :: putF f v us)
    by_cases c : k = f
    · rw [if_pos c, if_pos c]; exact .cons r t
    · rw [if_neg c, if_neg c]; exact .cons q (RepF.put r t)
theorem RepF.length : ∀ {fs : List (Str × D)} {vs : List (Str × V)}, RepF K F fs vs → fs.length = vs.length
  | _, _, .nil => rfl
  | _, _, .cons _ t => by simp [RepF.length t]
theorem Sim.insOf {d : D} {v : V} {C : Addr} {fs : List (Str × D)} (S : Sim K F h H) (r : Rep K F d v) (e : DL.insOf h d = some (C, fs)) : ∃ a dx vs, v = .ref a ∧ H a = some (.ins C dx vs) ∧ RepF K F fs vs := by
  cases r with
  | ref a =>
    cases q : h a with
    | none => simp [DL.insOf, q] at e
    | some o =>
      cases o with
      | ins C' gs =>
        simp only [DL.insOf, q, Option.some.injEq, Prod.mk.injEq] at e
        obtain ⟨rfl, rfl⟩ := e
        obtain ⟨_, u, hu, dx, vs, rfl, rs⟩ := S.ob _ _ q
        exact ⟨a, dx, vs, rfl, hu, rs⟩
      | _ => simp [DL.insOf, q] at e
  | @ob a C' dx xs vs hf rs =>
    simp only [DL.insOf, Option.some.injEq, Prod.mk.injEq] at e
    obtain ⟨rfl, rfl⟩ := e
    exact ⟨a, dx, vs, rfl, S.fz _ _ hf, rs⟩
  | _ => simp [DL.insOf] at e
end
section
variable {X : Cx} {E : XK} {gz : Bool} {k : Nat} {o value e : Expr} {es : List Expr} {wo wv : WE} {wl : WA} {pos pos' p : Pos} {f x : Str} {C : Addr}
/-- e.f of an instance of C -/
def wFld (C : Addr) (f : Str) (wo : WE) : WE := fun ρ h Q X => wo ρ h (fun x h1 => ∃ fs d, insOf h1 x = some (C, fs) ∧ fs.lookup f = some d ∧ Q d h1) X
theorem ae_fld (c : Cls X.K C) (n : NoAttr X.K C f) (ho : AE X E o wo) (hb : attributeBase o f X.env (eval o X.env) = eval o X.env := by rfl) : AE X E (.Attribute o f pos) (wFld C f wo) := by
  refine ⟨PE.imp (pe_fld ho.run hb) fun σ H Q ⟨F, ρ, h, S, R, q⟩ => ?_, fun ρ h Q Q' X X' hq hx q => ho.mo _ _ _ _ _ _ (fun x h1 ⟨fs, d, e1, e2, z⟩ => ⟨fs, d, e1, e2, hq _ _ z⟩) hx q⟩
  refine ⟨F, ρ, h, S, R, ho.mo _ _ _ _ _ _ (fun x h1 z => ?_) (fun _ _ z => z) q⟩
  intro F1 H1 v e1 S1 r
  obtain ⟨fs, d, ei, el, z⟩ := z
  obtain ⟨a, dx, vs, rfl, ha, rs⟩ := S1.insOf r ei
  obtain ⟨w, hw, rw'⟩ := rs.look el
  exact ⟨a, C, dx, vs, w, rfl, ha, c, n, hw, z F1 H1 w e1 S1 rw'⟩
/-- o.f = value -/
def wSetF (C : Addr) (f : Str) (wo wv : WE) : WS := fun D ρ h => wv ρ h (fun z h1 => wo ρ h1 (fun x h2 => ∃ a fs, x = .ref a ∧ h2 a = some (.ins C fs) ∧ fs.length < 1000 ∧ D.nx ρ (up h2 a (.ins C (putFD f z fs)))) D.ex) D.ex
theorem as_fld (c : Cls X.K C) (n : NoAttr X.K C f) (ho : AE X E o wo) (hv : AE X E value wv) (hs : swapsWith value (some (.Attribute o f pos')) pos.line X.env = pure false := by rfl) : AS X E (.Assign [.Attribute o f pos'] value pos) (wSetF C f wo wv) := by
  refine ⟨PS.imp (ps_fld ho.run hv.run hs) fun D σ H ⟨F, ρ, h, S, R, q⟩ => ?_, fun D D' ρ h l q => hv.mo _ _ _ _ _ _ (fun z h1 q => ho.mo _ _ _ _ _ _ (fun x h2 ⟨a, fs, e1, e2, e3, q⟩ => ⟨a, fs, e1, e2, e3, l.nx _ _ q⟩) l.ex q) l.ex q⟩
  refine ⟨F, ρ, h, S, R, hv.mo _ _ _ _ _ _ (fun z h1 q => ?_) (fun _ _ z => z) q⟩
  intro F1 H1 vz e1 S1 rz
  refine ⟨F1, ρ, h1, S1, R.ext e1, ho.mo _ _ _ _ _ _ (fun x h2 q => ?_) (fun _ _ z => LX.ext e1 z) q⟩
  intro F2 H2 vx e2 S2 rx
  obtain ⟨a, fs, rfl, ea, l, q⟩ := q
  cases rx
  obtain ⟨_, u, hu, dx, vs, rfl, rs⟩ := S2.ob _ _ ea
  exact ⟨a, C, dx, vs, rfl, hu, c, n, by rw [← rs.length]; exact l, q F2 _ σ (e1.trans e2) (S2.put ea (o := .ins C (putFD f z fs)) ⟨dx, _, rfl, rs.put (rz.ext e2)⟩) (R.ext (e1.trans e2))⟩
/-- C(e, ..): made, then taken as what does not change -/
def wMake (C : Addr) (S : FSpec) (wl : WA) : WE := fun ρ h Q X => wl ρ h (fun ds h1 => ∀ a, h1 a = none → S (.ref a :: ds) (up h1 a (.ins C [])) (fun v h2 => v = .non ∧ ∃ fs, h2 a = some (.ins C fs) ∧ Q (.ob C fs) (rm h2 a)) X) X
theorem make_to {K : PySem.W.Frag} {S : FSpec} (mo : MoF S) {F : Hp} {h : AH} {H : Hp} {ds : List D} {vs : List V} {Q : VK} {E : XK} (S0 : Sim K F h H) (r : Reps K F ds vs)
    (q : ∀ a, h a = none → S (.ref a :: ds) (up h a (.ins C [])) (fun v h2 => v = .non ∧ ∃ fs, h2 a = some (.ins C fs) ∧ LQ K F Q (.ob C fs) (rm h2 a)) (LX K F E)) :
    ∀ x dx, H x = none → H dx = none → dx ≠ x → spD K S (V.ref x :: vs) (upd (upd H dx (.own x)) x (.ins C dx [])) (fun v H2 => v = .non ∧ Q (.ref x) H2) E := by
  intro x dx hx hd ne
  have S1 := S0.newF hd (.own x)
  have e1 := ext_upd (o := HO.own x) (S0.free hd).1
  have hx1 : (upd H dx (.own x)) x = none := by rw [upd_ne ne.symm]; exact hx
  have S2 := S1.newM hx1 (o := .ins C []) (u := .ins C dx []) ⟨dx, [], rfl, .nil⟩
  refine ⟨_, .ref x :: ds, _, S2, .cons (.ref x) (r.ext e1), mo _ _ _ _ _ _ (fun v h2 z => ?_) (fun _ _ z => LX.ext e1 z) (q x (S0.free hx).2)⟩
  obtain ⟨rfl, fs, ef, z⟩ := z
  intro F3 H3 w e3 S3 rw'
  cases rw'
  refine ⟨rfl, ?_⟩
  obtain ⟨_, u, hu, dy, us, rfl, rs⟩ := S3.ob _ _ ef
  obtain ⟨e4, S4⟩ := S3.frz ef hu rm_same rm_sub
  exact z _ _ _ (e1.trans (e3.trans e4)) S4 (.ob upd_same (rs.ext e4))
/-- what a positional call of a def promises -/
abbrev FnRD (P : Program) (w : World) (K : PySem.W.Frag) (mg : Str → Option Value) (base : Heap) (k : Nat) (f : Addr) (S : FSpec) : Prop := FnR P w K mg base (L2.CX P w) k f fun vs H Q E => spD K S vs H Q E
theorem ae_make {j : Nat} {fI : Addr} {S : FSpec} (c : Cg gz X E k) (M : Mk X.K C fI) (G : FnRD X.prog X.w X.K X.mg X.base j fI S) (mo : MoF S) (hj : j + 1 ≤ k) (hm : X.mg x = some (.ref C)) (ha : AA X E (e :: es) wl)
    (hg : Gl X x := by rfl) (hdb : (x == ("__debug__" : Str)) = false := by decide) (he : starEach (e :: es) X.env = (false, eval e X.env) :: starEach es X.env := by rfl)
    (hpl : (backTo pos (starEach es X.env)).any (·.1) = false := by rfl) : AE X E (.Call (.Name x p) (e :: es) [] pos) (wMake C S wl) := by
  refine ⟨PE.imp (StX.pe_makeR M G (c.room.mono hj) hg hm c.ps ha.run hdb he hpl) fun σ H Q ⟨F, ρ, h, S0, R, q⟩ => ?_, fun ρ h Q Q' X X' hq hx q => ha.mo _ _ _ _ _ _ (fun ds h1 z a hz => mo _ _ _ _ _ _ (fun v h2 ⟨e1, fs, e2, z⟩ => ⟨e1, fs, e2, hq _ _ z⟩) hx (z a hz)) hx q⟩
  refine ⟨F, ρ, h, S0, R, ha.mo _ _ _ _ _ _ (fun ds h1 z => ?_) (fun _ _ z => z) q⟩
  intro F1 H1 vs e1 S1 rs
  exact make_to mo S1 rs fun a ha => mo _ _ _ _ _ _ (fun v h2 ⟨z1, fs, z2, z⟩ => ⟨z1, fs, z2, LQ.ext e1 z⟩) (fun _ _ z => LX.ext e1 z) (z a ha)
end
end DL
namespace DL
open PySem PySem.Spec L2 C8
section
variable {P : Program} {w : World} {K : PySem.W.Frag} {mg : Str → Option Value} {base : Heap} {k : Nat} {f : Addr} {fd : FuncData} {ps : List Str} {S : FSpec}
/-- a def called with all its parameters by place -/
theorem frd_plain (G : FnG false P w K mg base k f fd ps S) (B : Bnd K fd ps ps.length [] (fun ds _ => ds)) : FnRD P w K mg base k f S := by
  intro A outer s H us vs Q E hr e0 r hs
  obtain ⟨F, ds, g, S0, r0, q⟩ := hs
  have X : K.In s.heap := e0.mod.kin.keeps fun b o e => (e0.bs b o e).1
  obtain ⟨xs, ts, rx, rt, bt⟩ := B.to s F ds [] vs [] us [] X (G.len _ _ _ _ q) rfl r0 r .nil .nil
  exact G.run hr (fun z => Bool.noConfusion z) e0 bt rt ⟨F, ds, g, S0, rx, q⟩
theorem FnRD.mono {j : Nat} (G : FnRD P w K mg base j f S) (h : j ≤ k) : FnRD P w K mg base k f S := fun A outer s H us vs Q E hr => G A outer s H us vs Q E (hr.mono h)
/-- what a def with n parameters and a starred one promises by place -/
def starS (n : Nat) (S : FSpec) : FSpec := fun ds h Q X => n ≤ ds.length ∧ (ds.drop n).length ≤ sizeLine ∧ S (ds.take n ++ [.tup (ds.drop n)]) h Q X
theorem starS_mo {n : Nat} (mo : MoF S) : MoF (starS n S) := fun _ _ _ _ _ _ hq hx ⟨a, b, q⟩ => ⟨a, b, mo _ _ _ _ _ _ hq hx q⟩
theorem frd_star {x qual : Str} {st : Stmt} {N : List Str} {pv : Str} {W : WS} (Fn : L2.Fun K x qual st f fd) (sc : FnScope N (ps ++ [pv]) (defScope st)) (len : ∀ ds h Q X, S ds h Q X → ds.length = (ps ++ [pv]).length) (mo : MoF S)
    (hb : ∀ (kV doc pm : Value) (an : Option Addr) (cdv ct : Value) (us rest : List Value), us.length = ps.length → bindArgs (PySem.W.fnOf x qual (defArgs st) (defBody st) (defScope st) .none kV doc pm an cdv ct) ⟨us ++ rest, []⟩ = (newTuple rest >>= fun t => pure (ps.zip us ++ [(pv, t)])))
    (body : ∀ (cdv : Value) (A : Around) (outer : List PySem.Env) (s : Shared) (H : Hp) (E : XK), Cg false (cxOf (L2.CX P w) P w K mg base N qual (defScope st) f cdv A outer s H E) E k →
      ASs (cxOf (L2.CX P w) P w K mg base N qual (defScope st) f cdv A outer s H E) E (defBody st) W)
    (pure : ∀ ds h Q X, S ds h Q X → W (endsD Q X) (startD N.length ds) h) : FnRD P w K mg base (k + 1) f (starS ps.length S) := by
  obtain ⟨oc, od, kV, doc, pm, an, cdv, ct, osl, rfl, lk, hcd⟩ := Fn.ex
  have R := StX.fn_star (P := P) (w := w) (mg := mg) (base := base) (k := k) (sp := fun vs H Q E => spD K S vs H Q E) lk hcd sc StX.cxUp (hb kV doc pm an cdv ct) (fun A outer s H vs Q E hr hs => by
    have c : Cg false (cxOf (L2.CX P w) P w K mg base N qual (defScope st) f cdv A outer s H E) E k :=
      ⟨hr, fun z => Bool.noConfusion z, rfl, sc.nd, passes_call (takes_of rfl rfl rfl rfl) fun _ _ _ _ z => z, passes_of rfl⟩
    obtain ⟨F0, ds, g, S0, r0, q0⟩ := hs
    have B := body cdv A outer s H E c
    refine ⟨_, B.run, F0, _, g, S0, start_env r0, B.mo (endsD (LQ K F0 Q) (LX K F0 E)) _ _ _ ⟨fun ρ h z => ?_, fun d h z => LQ.fin z, fun _ _ z => False.elim z, fun _ _ z => False.elim z, fun _ _ z => z⟩ (pure ds g _ _ q0)⟩
    exact fun F' H' σ' e S' _ => LQ.fin z F' H' .non e S' .non)
  refine R.imp fun vs H Q E hs => ?_
  obtain ⟨F, ds, g, S0, r0, l1, l2, q⟩ := hs
  refine ⟨vs.take ps.length, vs.drop ps.length, (List.take_append_drop _ _).symm, by rw [List.length_take, ← r0.length]; omega, by rw [← (r0.drop ps.length).length]; exact l2, fun p hp => ?_⟩
  have x1 := ext_upd (o := HO.tup (vs.drop ps.length)) (S0.free hp).1
  exact ⟨_, _, g, S0.newF hp _, ((r0.take ps.length).ext x1).append (.cons (.tup (.of upd_same) ((r0.drop ps.length).ext x1)) .nil), mo _ _ _ _ _ _ (fun _ _ z => LQ.ext x1 z) (fun _ _ z => LX.ext x1 z) q⟩
end
section
variable {X : Cx} {E : XK} {gz : Bool} {k j : Nat} {o value e fe : Expr} {es : List Expr} {wo wv we : WE} {wl : WA} {pos pos' p sp_ : Pos} {f x m : Str} {C fI g : Addr} {S : FSpec}
/-- C() -/
theorem ae_make0 (c : Cg gz X E k) (M : Mk X.K C fI) (G : FnRD X.prog X.w X.K X.mg X.base j fI S) (mo : MoF S) (hj : j + 1 ≤ k) (hm : X.mg x = some (.ref C))
    (hg : Gl X x := by rfl) (hdb : (x == ("__debug__" : Str)) = false := by decide) : AE X E (.Call (.Name x p) [] [] pos) (wMake C S wNil) := by
  refine ⟨⟨fun pins s σ H Q I hq => ?_⟩, fun ρ h Q Q' X X' hq hx q a hz => mo _ _ _ _ _ _ (fun v h2 ⟨e1, fs, e2, z⟩ => ⟨e1, fs, e2, hq _ _ z⟩) hx (q a hz)⟩
  obtain ⟨F, ρ, h, S0, R, q⟩ := hq
  refine wpAny_Call_Name_kw (ld_glob I hg hm ?_ hdb)
  exact PySem.W.callWith_K0 (first := []) I.kIn M.kp (StX.run_makeR (us := []) (vs := []) M G (c.room.mono hj) c.ps I .nil (make_to mo S0 .nil q))
/-- C(*e) -/
def wMakeS (C : Addr) (S : FSpec) (we : WE) : WE := fun ρ h Q X => we ρ h (fun y h1 => ∃ ds, seqOf h1 y = some ds ∧ ∀ a, h1 a = none → S (.ref a :: ds) (up h1 a (.ins C [])) (fun v h2 => v = .non ∧ ∃ fs, h2 a = some (.ins C fs) ∧ Q (.ob C fs) (rm h2 a)) X) X
theorem ae_makeS (c : Cg gz X E k) (M : Mk X.K C fI) (G : FnRD X.prog X.w X.K X.mg X.base j fI S) (mo : MoF S) (hj : j + 1 ≤ k) (hm : X.mg x = some (.ref C)) (he : AE X E e we)
    (hg : Gl X x := by rfl) (hdb : (x == ("__debug__" : Str)) = false := by decide) (hst : starEach [.Starred e sp_] X.env = [(true, eval e X.env)] := by rfl) : AE X E (.Call (.Name x p) [.Starred e sp_] [] pos) (wMakeS C S we) := by
  refine ⟨⟨fun pins s σ H Q I hq => ?_⟩, fun ρ h Q Q' X X' hq hx q => he.mo _ _ _ _ _ _ (fun y h1 ⟨ds, e0, z⟩ => ⟨ds, e0, fun a hz => mo _ _ _ _ _ _ (fun v h2 ⟨e1, fs, e2, z⟩ => ⟨e1, fs, e2, hq _ _ z⟩) hx (z a hz)⟩) hx q⟩
  obtain ⟨F, ρ, h, S0, R, q⟩ := hq
  refine wpAny_Call_Name_kw (ld_glob I hg hm ?_ hdb)
  refine PySem.W.callWith_S (h₀ := X.base) I.ok.mod.kin M.kp (thn (he.run.run pins s σ H (fun y H1 => ∃ a xs, y = V.ref a ∧ (SqT X.K H1 a xs ∨ SqL X.K H1 a xs) ∧ ∀ x dx, H1 x = none → H1 dx = none → dx ≠ x → spD X.K S (V.ref x :: xs) (upd (upd H1 dx (.own x)) x (.ins C dx [])) (fun v H2 => v = .non ∧ Q (.ref x) H2) E) I
    ⟨F, ρ, h, S0, R, he.mo _ _ _ _ _ _ (fun y h1 z F1 H1 v e1 S1 r => ?_) (fun _ _ z => z) q⟩) fun v s1 ⟨y, H1, I1, ry, a, xs, ey, hxs, q1⟩ => ?_) hst
  · obtain ⟨ds, e0, z⟩ := z
    obtain ⟨a, vs, rfl, hs, rs⟩ := S1.seqOf r e0
    exact ⟨a, vs, rfl, hs.symm, make_to mo S1 rs fun a ha => mo _ _ _ _ _ _ (fun v h2 ⟨z1, fs, z2, z⟩ => ⟨z1, fs, z2, LQ.ext e1 z⟩) (fun _ _ z => LX.ext e1 z) (z a ha)⟩
  · subst ey
    obtain rfl : v = Value.ref a := ry
    exact StX.star_any I1 hxs fun us s2 I2 rv => ⟨I2.kIn, StX.run_makeR M G (c.room.mono hj) c.ps I2 rv q1⟩
/-- f(e, ..), f an instance of C -/
def wCallO (C : Addr) (S : FSpec) (wo : WE) (wl : WA) : WE := fun ρ h Q X => wo ρ h (fun y h1 => wl ρ h1 (fun ds h2 => (∃ fs, insOf h2 y = some (C, fs)) ∧ S (y :: ds) h2 Q X) X) X
theorem ae_callO (c : Cg gz X E k) (cc : StX.CallO X.K C g) (G : FnRD X.prog X.w X.K X.mg X.base j g S) (mo : MoF S) (hj : j ≤ k) (hf : AE X E fe wo) (ha : AA X E (e :: es) wl)
    (isr : ∀ (y : D) (h : AH) (fs : List (Str × D)), insOf h y = some (C, fs) → True := fun _ _ _ _ => trivial)
    (ht : eval (.Call fe (e :: es) [] pos) X.env = (do callWith pos (← eval fe X.env) [] (backTo pos (starEach (e :: es) X.env)) (backToKw pos (keywordEach [] X.env))) := by rfl)
    (he : starEach (e :: es) X.env = (false, eval e X.env) :: starEach es X.env := by rfl) (hpl : (backTo pos (starEach es X.env)).any (·.1) = false := by rfl) : AE X E (.Call fe (e :: es) [] pos) (wCallO C S (fun ρ h Q X => wo ρ h (fun y h1 => (∃ fs, insOf h1 y = some (C, fs)) ∧ Q y h1) X) wl) := by
  refine ⟨PE.imp (StX.pe_callO hf.run cc (G.mono hj) c.room c.ps ha.run ht he hpl) fun σ H Q ⟨F, ρ, h, S0, R, q⟩ => ?_, fun ρ h Q Q' X X' hq hx q => hf.mo _ _ _ _ _ _ (fun y h1 z => ⟨z.1, ha.mo _ _ _ _ _ _ (fun ds h2 z => ⟨z.1, mo _ _ _ _ _ _ hq hx z.2⟩) hx z.2⟩) hx q⟩
  refine ⟨F, ρ, h, S0, R, hf.mo _ _ _ _ _ _ (fun y h1 z => ?_) (fun _ _ z => z) q⟩
  intro F1 H1 v e1 S1 r
  obtain ⟨⟨fs, ei⟩, z⟩ := z
  obtain ⟨a, dx, vs, rfl, _, _⟩ := S1.insOf r ei
  refine ⟨a, rfl, F1, ρ, h1, S1, R.ext e1, ha.mo _ _ _ _ _ _ (fun ds h2 z => ?_) (fun _ _ z => LX.ext e1 z) z⟩
  intro F2 H2 us e2 S2 rs
  obtain ⟨⟨fs2, ei2⟩, z⟩ := z
  obtain ⟨a2, dx2, vs2, ea, hi, _⟩ := S2.insOf (r.ext e2) ei2
  cases ea
  exact ⟨.inr ⟨dx2, vs2, hi⟩, F2, _, h2, S2, .cons (r.ext e2) rs, mo _ _ _ _ _ _ (fun _ _ z => LQ.ext (e1.trans e2) z) (fun _ _ z => LX.ext (e1.trans e2) z) z⟩
end
end DL
namespace DL
open PySem PySem.Spec L2 C8
section
variable {P : Program} {w : World} {K : PySem.W.Frag} {mg : Str → Option Value} {base : Heap} {k : Nat} {f : Addr} {fd : FuncData} {ps : List Str} {S : FSpec}
theorem FnG.ok (G : FnG false P w K mg base k f fd ps S) : FnOk P w K mg base (L2.CX P w) k f fd ps (fun vs H Q E => spD K S vs H Q E) :=
  ⟨fun vs H Q E h => spD_len G.len h, fun A outer s H args us vs Q E hr e0 hb hv hs => G.run hr (fun z => Bool.noConfusion z) e0 hb hv hs⟩
end
section
variable {X : Cx} {E : XK} {gz : Bool} {k j : Nat} {o value e fe : Expr} {es : List Expr} {wo wv we : WE} {wl : WA} {pos pos' apos p sp_ : Pos} {f x m : Str} {C fI g pa : Addr} {S : FSpec} {fd : FuncData} {ps : List Str}
def isI (C : Addr) (x : D) (h : AH) : Prop := ∃ fs, insOf h x = some (C, fs)
/-- e.f, a property of C -/
def wProp (C : Addr) (S : FSpec) (wo : WE) : WE := fun ρ h Q X => wo ρ h (fun x h1 => isI C x h1 ∧ S [x] h1 Q (fun _ _ => False)) X
theorem ae_prop (c : Cg gz X E k) (cc : Cls X.K C) (hp : PropOf X.K C f pa g) (G : FnG false X.prog X.w X.K X.mg X.base j g fd ps S) (hb : Binds X.K fd ps []) (hj : j + 1 ≤ k) (ho : AE X E o wo)
    (hab : attributeBase o f X.env (eval o X.env) = eval o X.env := by rfl) : AE X E (.Attribute o f pos) (wProp C S wo) := by
  have hx : Passes (L2.CX X.prog X.w) X.nox L2.E0 := passL
  refine ⟨PE.imp (pe_prop ho.run cc hp G.ok (c.room.mono hj) hb .nil hx hab) fun σ H Q ⟨F, ρ, h, S0, R, q⟩ => ?_, fun ρ h Q Q' X X' hq hx q => ho.mo _ _ _ _ _ _ (fun x h1 z => ⟨z.1, G.mo _ _ _ _ _ _ hq (fun _ _ z => z) z.2⟩) hx q⟩
  refine ⟨F, ρ, h, S0, R, ho.mo _ _ _ _ _ _ (fun x h1 z => ?_) (fun _ _ z => z) q⟩
  intro F1 H1 v e1 S1 r
  obtain ⟨⟨fs, ei⟩, z⟩ := z
  obtain ⟨a, dx, vs, rfl, ha, _⟩ := S1.insOf r ei
  exact ⟨a, dx, vs, rfl, ha, F1, _, h1, S1, .cons r .nil, G.mo _ _ _ _ _ _ (fun _ _ z => LQ.ext e1 z) (fun _ _ z => z.elim) z⟩
/-- o.m(e, ..) -/
def wMet (C : Addr) (m : Str) (S : FSpec) (wo : WE) (wl : WA) : WE := fun ρ h Q X => wo ρ h (fun x h1 => ∃ fs, insOf h1 x = some (C, fs) ∧ fs.lookup m = none ∧ wl ρ h1 (fun ds h2 => S (x :: ds) h2 Q X) X) X
theorem RepF.no {K : PySem.W.Frag} {F : Hp} {f : Str} : ∀ {fs : List (Str × D)} {vs : List (Str × V)}, RepF K F fs vs → fs.lookup f = none → vs.lookup f = none
  | _, _, .nil, _ => rfl
  | _, _, @RepF.cons _ _ k x v xs vs r t, e => by
    cases c : f == k with
    | true => simp only [List.lookup_cons, c] at e; cases e
    | false =>
      simp only [List.lookup_cons, c] at e ⊢
      exact RepF.no t e
theorem ae_met {pl : Sem Bool} (c : Cg gz X E k) (cc : Cls X.K C) (hm : Meth X.K C m g) (G : FnRD X.prog X.w X.K X.mg X.base j g S) (mo : MoF S) (hj : j ≤ k) (ho : AE X E o wo) (ha : AA X E (e :: es) wl)
    (hst : starEach (e :: es) X.env = (false, eval e X.env) :: starEach es X.env := by rfl) (hpl : (backTo pos (starEach es X.env)).any (·.1) = false := by rfl)
    (ht : eval (.Call (.Attribute o m apos) (e :: es) [] pos) X.env = (do let ov ← eval o X.env; standAt apos.atName; let (f, first) ← holding [ov] (getMethod ov m pl); callWith pos f first (backTo pos (starEach (e :: es) X.env)) (backToKw pos (keywordEach [] X.env))) := by rfl) : AE X E (.Call (.Attribute o m apos) (e :: es) [] pos) (wMet C m S wo wl) := by
  refine ⟨PE.imp (pe_methR ho.run cc hm (G.mono hj) c.room c.ps ha.run hst hpl ht) fun σ H Q ⟨F, ρ, h, S0, R, q⟩ => ?_, fun ρ h Q Q' X X' hq hx q => ho.mo _ _ _ _ _ _ (fun x h1 ⟨fs, e1, e2, z⟩ => ⟨fs, e1, e2, ha.mo _ _ _ _ _ _ (fun ds h2 z => mo _ _ _ _ _ _ hq hx z) hx z⟩) hx q⟩
  refine ⟨F, ρ, h, S0, R, ho.mo _ _ _ _ _ _ (fun x h1 z => ?_) (fun _ _ z => z) q⟩
  intro F1 H1 v e1 S1 r
  obtain ⟨fs, ei, el, z⟩ := z
  obtain ⟨a, dx, vs, rfl, hi, rs⟩ := S1.insOf r ei
  refine ⟨a, dx, vs, rfl, hi, rs.no el, F1, ρ, h1, S1, R.ext e1, ha.mo _ _ _ _ _ _ (fun ds h2 z => ?_) (fun _ _ z => LX.ext e1 z) z⟩
  intro F2 H2 us e2 S2 rs2
  exact ⟨F2, _, h2, S2, .cons (r.ext e2) rs2, mo _ _ _ _ _ _ (fun _ _ z => LQ.ext (e1.trans e2) z) (fun _ _ z => LX.ext (e1.trans e2) z) z⟩
end
end DL
namespace DL
open PySem PySem.Spec L2 C8
section
variable {X : Cx} {E : XK} {gz : Bool} {k j : Nat} {a b o e : Expr} {wa wb wo wi : WE} {pos apos : Pos} {m : Str} {C g : Addr} {S : FSpec} {op : Operator}
theorem pass_no : Passes (L2.CX X.prog X.w) X L2.E0 := fun _ _ _ _ _ _ _ h => by
  obtain ⟨_, _, _, _, _, _, _, _, _, _, _, _, h⟩ := h
  exact False.elim h
theorem ins_at {pins : List (Addr × Obj)} {σ : L2.St} {H : Hp} {s : Shared} {q dx : Addr} {fs : List (Str × V)} (I : Inv X pins σ H s) (h : H q = some (.ins C dx fs)) : ∃ ox od, PySem.W.InstAt s.heap q ox C od := by
  obtain ⟨mA, O, _⟩ := ins_get I.hok h
  obtain ⟨od, J, _⟩ := O.look
  exact ⟨_, _, J⟩
/-- x op y, both instances of C -/
def rOwn2 (C : Addr) (sp : Sp) : R2 := fun x y H Q => ∃ a dx fs b dy gs, x = .ref a ∧ y = .ref b ∧ H a = some (.ins C dx fs) ∧ H b = some (.ins C dy gs) ∧ sp [x, y] H Q L2.E0
theorem op_own2 (hc : PySem.W.selfFirst X.K C = true) (hs : PySem.W.findIn X.K (.ref C) (PySem.dunder op.info.2) = some (some (.ref g))) (hf : PySem.W.isFn X.K (.ref g) = true) (G : FnRD X.prog X.w X.K X.mg X.base j g S) (hr : Room j X.A) :
    OpR X (binaryOp op) (rOwn2 C fun vs H Q E => spD X.K S vs H Q E) := by
  intro pins s σ H x y v u Q I rx ry h
  obtain ⟨p, dx, fs, q, dy, gs, rfl, rfl, hp, hq, z⟩ := h
  cases (show v = Value.ref p from rx)
  cases (show u = Value.ref q from ry)
  obtain ⟨ox, od, J⟩ := ins_at I hp
  obtain ⟨oy, ody, J'⟩ := ins_at I hq
  obtain ⟨mm, hF⟩ := I.fr
  refine PySem.W.binop_K hF I.ok.mod.kin J J'.type hc hs hf (wpAny_mono (wpAny_call (run_fnR (us := [.ref p, .ref q]) (vs := [.ref p, .ref q]) G hr pass_no I (.cons rfl (.cons rfl .nil)) z)) (fun w s' z => ?_) fun _ _ x => x)
  obtain ⟨z', H', I', rz, qz⟩ := z
  exact SlX.cmpback rz ⟨z', H', I', rz, qz⟩
def dOwn2 (C : Addr) (S : FSpec) (x y : D) (h : AH) (Q : KD) : Prop := isI C x h ∧ isI C y h ∧ S [x, y] h Q (fun _ _ => False)
theorem dOwn2_ok {K : PySem.W.Frag} (mo : MoF S) : OpD K (rOwn2 C fun vs H Q E => spD K S vs H Q E) (dOwn2 C S) where
  to := by
    rintro F h H x y vx vy Q S0 rx ry ⟨⟨fs, ex⟩, ⟨gs, ey⟩, q⟩
    obtain ⟨p, dx, us, rfl, hp, _⟩ := S0.insOf rx ex
    obtain ⟨r, dy, ws, rfl, hq, _⟩ := S0.insOf ry ey
    exact ⟨p, dx, us, r, dy, ws, rfl, rfl, hp, hq, F, _, h, S0, .cons rx (.cons ry .nil), mo _ _ _ _ _ _ (fun _ _ z => z) (fun _ _ z => z.elim) q⟩
  mo := fun hq ⟨a, b, q⟩ => ⟨a, b, mo _ _ _ _ _ _ hq (fun _ _ z => z) q⟩
/-- x op i, x an instance of C, i an int -/
def rOwnI (C : Addr) (sp : Sp) : R2 := fun x y H Q => ∃ a dx fs i, x = .ref a ∧ y = .int i ∧ H a = some (.ins C dx fs) ∧ sp [x, y] H Q L2.E0
structure OwnI (K : PySem.W.Frag) (C g : Addr) (op : Operator) : Prop where
  sf : PySem.W.selfFirst K C = true
  at_ : PySem.W.findIn K (.ref C) (PySem.dunder op.info.2) = some (some (.ref g))
  fn : PySem.W.isFn K (.ref g) = true
  rr : ∃ rc, PySem.W.findIn K (.ref C) (PySem.dunderR op.info.2) = some rc ∧ (rc = none ∨ ∃ r : Addr, rc = some (.ref r))
  f1 : ∃ fo, PySem.W.findIn K (.type "int") (PySem.dunder op.info.2) = some fo
  f2 : ∃ ro, PySem.W.findIn K (.type "int") (PySem.dunderR op.info.2) = some ro
  sb : PySem.W.subIn K (.type "int") (.ref C) = some false
theorem op_ownI (o : OwnI X.K C g op) (G : FnRD X.prog X.w X.K X.mg X.base j g S) (hr : Room j X.A) : OpR X (binaryOp op) (rOwnI C fun vs H Q E => spD X.K S vs H Q E) := by
  intro pins s σ H x y v u Q I rx ry h
  obtain ⟨p, dx, fs, i, rfl, rfl, hp, z⟩ := h
  cases (show v = Value.ref p from rx)
  obtain ⟨t, rfl⟩ := ry
  obtain ⟨ox, od, J⟩ := ins_at I hp
  obtain ⟨mm, hF⟩ := I.fr
  obtain ⟨rc, hrc, hp2⟩ := o.rr
  obtain ⟨fo, h1⟩ := o.f1
  obtain ⟨ro, h2⟩ := o.f2
  refine PySem.W.ksp_binT (T := "int") hF I.ok.mod.kin J rfl o.sf o.at_ o.fn hrc hp2 h1 h2 o.sb (wpAny_mono (wpAny_call (run_fnR (us := [.ref p, .int i t]) (vs := [.ref p, .int i]) G hr pass_no I (.cons rfl (.cons ⟨t, rfl⟩ .nil)) z)) (fun w s' z => ?_) fun _ _ x => x)
  obtain ⟨z', H', I', rz, qz⟩ := z
  exact SlX.cmpback rz ⟨z', H', I', rz, qz⟩
def dOwnI (C : Addr) (S : FSpec) (x y : D) (h : AH) (Q : KD) : Prop := ∃ i, y = .int i ∧ isI C x h ∧ S [x, y] h Q (fun _ _ => False)
theorem dOwnI_ok {K : PySem.W.Frag} (mo : MoF S) : OpD K (rOwnI C fun vs H Q E => spD K S vs H Q E) (dOwnI C S) where
  to := by
    rintro F h H x y vx vy Q S0 rx ry ⟨i, rfl, ⟨fs, ex⟩, q⟩
    obtain ⟨p, dx, us, rfl, hp, _⟩ := S0.insOf rx ex
    cases ry
    exact ⟨p, dx, us, i, rfl, rfl, hp, F, _, h, S0, .cons rx (.cons (.int i) .nil), mo _ _ _ _ _ _ (fun _ _ z => z) (fun _ _ z => z.elim) q⟩
  mo := fun hq ⟨i, a, b, q⟩ => ⟨i, a, b, mo _ _ _ _ _ _ hq (fun _ _ z => z) q⟩
theorem ae_own2 (c : Cg gz X E k) (hc : PySem.W.selfFirst X.K C = true) (hs : PySem.W.findIn X.K (.ref C) (PySem.dunder op.info.2) = some (some (.ref g))) (hf : PySem.W.isFn X.K (.ref g) = true) (G : FnRD X.prog X.w X.K X.mg X.base j g S) (mo : MoF S) (hj : j ≤ k)
    (ha : AE X E a wa) (hb : AE X E b wb) : AE X E (.BinOp a op b pos) (wOp (dOwn2 C S) wa wb) := ae_bin (dOwn2_ok mo) (op_own2 hc hs hf (G.mono hj) c.room) ha hb
theorem ae_ownI (c : Cg gz X E k) (o : OwnI X.K C g op) (G : FnRD X.prog X.w X.K X.mg X.base j g S) (mo : MoF S) (hj : j ≤ k)
    (ha : AE X E a wa) (hb : AE X E b wb) : AE X E (.BinOp a op b pos) (wOp (dOwnI C S) wa wb) := ae_bin (dOwnI_ok mo) (op_ownI o (G.mono hj) c.room) ha hb
/-- -x, x an instance of C -/
theorem un_own (hs : PySem.W.findIn X.K (.ref C) "__neg__" = some (some (.ref g))) (hf : PySem.W.isFn X.K (.ref g) = true) (G : FnRD X.prog X.w X.K X.mg X.base j g S) (hr : Room j X.A) :
    UnR X (unaryOp .USub) (fun x H Q => ∃ a dx fs, x = .ref a ∧ H a = some (.ins C dx fs) ∧ spD X.K S [x] H Q L2.E0) := by
  intro pins s σ H x v Q I rx h
  obtain ⟨p, dx, fs, rfl, hp, z⟩ := h
  cases (show v = Value.ref p from rx)
  obtain ⟨ox, od, J⟩ := ins_at I hp
  obtain ⟨mm, hF⟩ := I.fr
  exact PySem.W.ksp_neg hF I.ok.mod.kin J hs hf (wpAny_call (run_fnR (us := [.ref p]) (vs := [.ref p]) G hr pass_no I (.cons rfl .nil) z))
def wNegO (C : Addr) (S : FSpec) (wa : WE) : WE := fun ρ h Q X => wa ρ h (fun x h1 => isI C x h1 ∧ S [x] h1 Q (fun _ _ => False)) X
theorem ae_negO (c : Cg gz X E k) (hs : PySem.W.findIn X.K (.ref C) "__neg__" = some (some (.ref g))) (hf : PySem.W.isFn X.K (.ref g) = true) (G : FnRD X.prog X.w X.K X.mg X.base j g S) (mo : MoF S) (hj : j ≤ k) (ha : AE X E a wa) : AE X E (.UnaryOp .USub a pos) (wNegO C S wa) := by
  refine ⟨PE.imp (pe_un (un_own hs hf (G.mono hj) c.room) ha.run) fun σ H Q ⟨F, ρ, h, S0, R, q⟩ => ?_, fun ρ h Q Q' X X' hq hx q => ha.mo _ _ _ _ _ _ (fun x h1 z => ⟨z.1, mo _ _ _ _ _ _ hq (fun _ _ z => z) z.2⟩) hx q⟩
  refine ⟨F, ρ, h, S0, R, ha.mo _ _ _ _ _ _ (fun x h1 z => ?_) (fun _ _ z => z) q⟩
  intro F1 H1 v e1 S1 r
  obtain ⟨⟨fs, ei⟩, z⟩ := z
  obtain ⟨p, dx, vs, rfl, hp, _⟩ := S1.insOf r ei
  exact ⟨p, dx, vs, rfl, hp, F1, _, h1, S1, .cons r .nil, mo _ _ _ _ _ _ (fun _ _ z => LQ.ext e1 z) (fun _ _ z => z.elim) z⟩
end
end DL
namespace DL
open PySem PySem.Spec L2 C8
section
variable {X : Cx} {E : XK} {gz : Bool} {k : Nat} {a b e o : Expr} {rest : List Expr} {wa wb wo : WE} {pos apos cpos p : Pos} {m : Str} {C g : Addr} {S : FSpec} {j : Nat}
/-- a or b, a of any truth -/
def wOrT (wa wb : WE) : WE := fun ρ h Q X => wa ρ h (fun x h1 => ∃ k, truD h1 x = some k ∧ if k = true then Q x h1 else wb ρ h1 Q X) X
end
end DL
namespace DL
open PySem PySem.Spec L2 C8
/-! ### dict comprehensions -/
def dcD (st : AH → Prop) (g : WG) (tt : WT) (tk tv : WE) (vs : List Nat) (ρ : EnvD) (p : Addr) : List D → AH → (AH → Prop) → Prop
  | [], h, Q => st h ∧ Q h
  | x :: r, h, Q => st h ∧ g x (wipeD ρ vs) h (fun ρ2 h2 => tt ρ2 h2 (fun b h3 => if b = true then tk ρ2 h3 (fun y h4 => tv ρ2 h4 (fun z h5 => ∃ kvs k, keyD y = some k ∧ h5 p = some (.dK kvs) ∧ kvs.length < sizeLine ∧ dcD st g tt tk tv vs ρ p r (up h5 p (.dK (putD kvs k z))) Q) (fun _ _ => False)) (fun _ _ => False)
      else dcD st g tt tk tv vs ρ p r h3 Q) (fun _ _ => False)) (fun _ _ => False)
def endK (m : Bool) (p : Addr) (Q : KD) : AH → Prop := fun h => ∃ kvs, h p = some (.dK kvs) ∧ if m = true then Q (.ref p) h else Q (.dK kvs) (rm h p)
def wDc (m : Bool) (wi : WI) (g : WG) (tt : WT) (tk tv : WE) (vs : List Nat) : WE := fun ρ h Q X => wi ρ h (fun xs st h1 => ∀ p, h1 p = none → dcD st g tt tk tv vs ρ p xs (up h1 p (.dK [])) (endK m p Q)) X
theorem dcD_mo {st : AH → Prop} {g : WG} {tt : WT} {tk tv : WE} {vs : List Nat} {ρ : EnvD} {p : Addr} (mg : MoG g) (mt : MoT tt) (mk : MoE tk) (mv : MoE tv) {Q Q' : AH → Prop} (hq : ∀ h, Q h → Q' h) : ∀ (xs : List D) (h : AH), dcD st g tt tk tv vs ρ p xs h Q → dcD st g tt tk tv vs ρ p xs h Q'
  | [], h, q => ⟨q.1, hq _ q.2⟩
  | x :: r, h, q => ⟨q.1, mg _ _ _ _ _ _ _ (fun ρ2 h2 z => mt _ _ _ _ _ _ (fun b h3 z => by
      split at z
      · rename_i c; rw [if_pos c]
        exact mk _ _ _ _ _ _ (fun y h4 z => mv _ _ _ _ _ _ (fun w h5 ⟨kvs, k, e1, e2, l, z⟩ => ⟨kvs, k, e1, e2, l, dcD_mo mg mt mk mv hq r _ z⟩) (fun _ _ z => z) z) (fun _ _ z => z) z
      · rename_i c; rw [if_neg c]; exact dcD_mo mg mt mk mv hq r _ z) (fun _ _ z => z) z) (fun _ _ z => z) q.2⟩
theorem endK_mo {m : Bool} {p : Addr} {Q Q' : KD} (hq : ∀ d h, Q d h → Q' d h) : ∀ h, endK m p Q h → endK m p Q' h := fun h ⟨acc, e, z⟩ => ⟨acc, e, by
  split at z
  · rename_i c; rw [if_pos c]; exact hq _ _ z
  · rename_i c; rw [if_neg c]; exact hq _ _ z⟩
theorem endK_to {K : PySem.W.Frag} {F : Hp} {h : AH} {H : Hp} {m : Bool} {p : Addr} {Q : VK} (S : Sim K F h H) (q : endK m p (LQ K F Q) h) : Q (.ref p) H := by
  obtain ⟨kvs, e, q⟩ := q
  split at q
  · exact q.at S (.ref p)
  · obtain ⟨f, u, hu, us, rfl, rs⟩ := S.ob _ _ e
    obtain ⟨e2, S2⟩ := S.frz e hu rm_same rm_sub
    exact q _ _ _ e2 S2 (.dK upd_same (rs.ext e2))
section
variable {X : Cx} {E : XK} {gz : Bool} {k : Nat} {kx vx tg iter : Expr} {ifs : List Expr} {scope : Scope} {own : List (Str × Nat)} {pos : Pos} {wi : WI} {g : WG} {gv : TG} {tt : WT} {tk tv : WE}
theorem wipe2 {σ : L2.St} (vs : List Nat) : L2.wipe (L2.wipe σ vs) vs = L2.wipe σ vs := by
  have key : ∀ (us vs : List Nat), (∀ u ∈ us, u ∈ vs) → L2.wipe (L2.wipe σ us) vs = L2.wipe σ vs := by
    intro us
    induction us with
    | nil => intro vs _; rfl
    | cons u us ih =>
      intro vs hu
      show L2.wipe ((L2.wipe σ us).set u none) vs = _
      rw [wipe_set (hu u (List.mem_cons_self ..)), ih vs fun w hw => hu w (List.mem_cons_of_mem _ hw)]
  exact key vs vs fun _ h => h
theorem to_dc {m : Bool} (mi : MoI wi) (mg : MoG g) (mt : MoT tt) (mk : MoE tk) (mv : MoE tv) (gw : GW X.K (own.map (·.2)) g gv) {σ : L2.St} {H : Hp} {Q : VK} (h : tE X.K E (wDc m wi g tt tk tv (own.map (·.2))) σ H Q) :
    tDc (tI X.K E wi) gv (tT X.K L2.E0 tt) (tE X.K L2.E0 tk) (tE X.K L2.E0 tv) (own.map (·.2)) σ H Q := by
  obtain ⟨F, ρ, h0, S, R, q⟩ := h
  refine ⟨F, ρ, h0, S, R, mi _ _ _ _ _ _ (fun xs st h1 z => ?_) (fun _ _ z => z) q⟩
  intro F1 H1 J e1 S1 it D hD
  obtain ⟨f1, g1⟩ := S1.free hD
  have z := z D g1
  refine ⟨fun i n H => n = xs.length - i ∧ i ≤ xs.length ∧ ∃ F2 h2, Ext F1 F2 ∧ Sim X.K F2 h2 H ∧ dcD st g tt tk tv (own.map (·.2)) ρ D (xs.drop i) h2 (endK m D (LQ X.K F2 Q)),
    ⟨xs.length, by simp, Nat.zero_le _, F1, _, .refl _, S1.newM hD (o := .dK []) ⟨[], rfl, .nil⟩, dcD_mo mg mt mk mv (endK_mo fun _ _ z => LQ.ext e1 z) _ _ (by simpa using z)⟩, ?_⟩
  rintro i n H2 ⟨rfl, hi, F2, h2, e2, S2, z2⟩
  by_cases lt : i < xs.length
  · rw [List.drop_eq_getElem_cons lt] at z2
    obtain ⟨hst, z2⟩ := z2
    refine .inr ⟨it.go e2 S2 hst lt, fun H' => ∃ F3 h3, Ext F1 F3 ∧ Sim X.K F3 h3 H' ∧ dcD st g tt tk tv (own.map (·.2)) ρ D (xs.drop (i + 1)) h3 (endK m D (LQ X.K F3 Q)), fun H' p => ⟨xs.length - (i + 1), by omega, rfl, lt, p⟩, fun x H' y => ?_⟩
    obtain ⟨F3, e3, S3, r3⟩ := it.yld e2 S2 hst y (List.getElem?_eq_getElem lt)
    have R3 := (R.ext (e1.trans (e2.trans e3))).wipe (own.map (·.2))
    refine gw.to S3 r3 R3 z2 fun ρ4 σ4 R4 z4 ew => ⟨by rw [ew, wipe2], F3, ρ4, h2, S3, R4, mt _ _ _ _ _ _ (fun b h5 z5 => ?_) (fun _ _ z => z.elim) z4⟩
    intro F5 H5 e5 S5
    split at z5
    · rename_i cb
      rw [if_pos cb]
      refine ⟨F5, ρ4, h5, S5, R4.ext e5, mk _ _ _ _ _ _ (fun y h6 z6 => ?_) (fun _ _ z => z.elim) z5⟩
      intro F6 H6 v6 e6 S6 r6
      refine ⟨F6, ρ4, h6, S6, (R4.ext e5).ext e6, mv _ _ _ _ _ _ (fun w h7 z7 => ?_) (fun _ _ z => z.elim) z6⟩
      intro F7 H7 v7 e7 S7 r7
      obtain ⟨kvs, kk, ek, ea, la, z7⟩ := z7
      obtain ⟨fa, u, hu, us, rfl, rs⟩ := S7.ob _ _ ea
      have eall := e3.trans (e5.trans (e6.trans e7))
      exact ⟨us, kk, keyD_to r6 ek, hu, by rw [← rs.length]; exact la, F7, _, e2.trans eall, S7.put ea (o := .dK (putD kvs kk w)) ⟨_, rfl, rs.put kk r7⟩, dcD_mo mg mt mk mv (endK_mo fun _ _ z => LQ.ext eall z) _ _ z7⟩
    · rename_i cb
      rw [if_neg cb]
      exact ⟨F5, _, e2.trans (e3.trans e5), S5, dcD_mo mg mt mk mv (endK_mo fun _ _ z => LQ.ext (e3.trans e5) z) _ _ z5⟩
  · have e : i = xs.length := by omega
    subst e
    rw [List.drop_length] at z2
    exact .inl ⟨it.stop e2 S2 z2.1 rfl, endK_to S2 z2.2⟩
theorem ae_dc (m : Bool) (c : Cg gz X E k) (hi : AI X E tg iter wi) (ok : BlkOk X.N X.env.scope scope own) (gw : GW X.K (own.map (·.2)) g gv)
    (hg : ∀ (s : Shared) (H : Hp) (C : Addr) (cl : List (Str × Addr)) (fp : List Addr), PG (Blk X scope s H C cl fp) tg gv)
    (ht : ∀ (s : Shared) (H : Hp) (C : Addr) (cl : List (Str × Addr)) (fp : List Addr), Cg gz (Blk X scope s H C cl fp) L2.E0 k → ATs (Blk X scope s H C cl fp) L2.E0 ifs tt)
    (hk : ∀ (s : Shared) (H : Hp) (C : Addr) (cl : List (Str × Addr)) (fp : List Addr), Cg gz (Blk X scope s H C cl fp) L2.E0 k → AE (Blk X scope s H C cl fp) L2.E0 kx tk)
    (he : ∀ (s : Shared) (H : Hp) (C : Addr) (cl : List (Str × Addr)) (fp : List Addr), Cg gz (Blk X scope s H C cl fp) L2.E0 k → AE (Blk X scope s H C cl fp) L2.E0 vx tv)
    (hs : ∀ x, foldedSetIterable iter X.env x = pure x := by intro _; rfl) : AE X E (.DictComp kx vx [⟨tg, iter, ifs, 0⟩] scope pos) (wDc m wi g tt tk tv (own.map (·.2))) := by
  have mg := gw.mo
  have mt := (ht X.s_0 X.H_0 0 [] [] (cg_blk c _ _ _ _ _)).mo
  have mk := (hk X.s_0 X.H_0 0 [] [] (cg_blk c _ _ _ _ _)).mo
  have mv := (he X.s_0 X.H_0 0 [] [] (cg_blk c _ _ _ _ _)).mo
  exact ⟨PE.imp (pe_dc (tt := tT X.K L2.E0 tt) (tk := tE X.K L2.E0 tk) (tv := tE X.K L2.E0 tv) c.calm c.nd hi.run ok hg (fun s H C cl fp => (ht s H C cl fp (cg_blk c s H C cl fp)).run) (fun s H C cl fp => (hk s H C cl fp (cg_blk c s H C cl fp)).run) (fun s H C cl fp => (he s H C cl fp (cg_blk c s H C cl fp)).run) hs) fun σ H Q h => to_dc hi.mo mg mt mk mv gw h,
    fun ρ h Q Q' X X' hq hx q => hi.mo _ _ _ _ _ _ (fun xs st h1 z p hp => dcD_mo mg mt mk mv (endK_mo hq) _ _ (z p hp)) hx q⟩
end
/-! ### x[::-1] of a list -/
end DL
namespace DL
open PySem PySem.Spec L2 C8 PyProof.Rows
end DL
namespace DL
open PySem PySem.Spec L2 C8 PyProof.Rows
section
variable {X : Cx}
/-- sorted(d), d with int keys, any number of them -/
theorem cr_sortedDK (hcalm : X.calm = true) : CallR X (.builtin "sorted") (fun xs H Q => ∃ (a : Addr) (kvs : List (Key × V)) (ks : List Int), xs = [.ref a] ∧ Rd H a (.dK kvs) ∧ kvs.map (·.1) = ks.map Sum.inl ∧
    ∀ (ys : List Int) (p : Addr), ys.Perm ks → ys.Pairwise (· ≤ ·) → H p = none → Q (.ref p) (upd H p (.lst (ys.map V.int)))) := by
  intro pins s σ H xs us Q I r q
  obtain ⟨a, kvs, ks, ex, hd, hks, q⟩ := q
  subst ex
  obtain ⟨u, eu, rx⟩ := vals1 r
  subst eu
  cases rx
  obtain ⟨z, lo, vs, rel, dd⟩ := dk_rd I.hok hd
  obtain ⟨ep, hat⟩ := dd.dictAt
  have hkeys : vs.map (·.1) = ks.map Sum.inl := rel.keys.symm.trans hks
  have hl : vs.length = ks.length := by
    have e := congrArg List.length hkeys
    rw [List.length_map, List.length_map] at e
    exact e
  have h16 : vs.length ≤ sizeLine := by rw [← Paired.length rel]; exact z
  refine Calls.call_function_entry PyProof.Rows.kind_sorted PyProof.Rows.plain_sorted PyProof.Rows.entry_sorted (PyProof.Rows.args_sorted1 _) ?_
  unfold Builtin.«sorted»
  refine wpAny_bind (m := checkCount "sorted" 1 1 _) (wpAny_pure ?_)
  refine wpAny_bind (PySem.W.kdu_collect (A := X.A.in1) (PySem.W.kdl_dict (knd := mixKind X.prog X.w) (kvs := vs) (ep := ep) lo) (I.ok.hd hcalm) hat h16 fun h' tk acc hk hacc => ?_)
  have hal : acc.toList.length = ks.length := by rw [Array.length_toList, hacc.1, hl]
  have hS : IntsAre acc.toList ks := ints_each hal fun j v e => by
    obtain ⟨k, x, e1, e2⟩ := hacc.2 j v (by rw [← Array.getElem?_toList]; exact e)
    have e3 : (vs.map (·.1))[j]? = some k := by rw [List.getElem?_map, e1]; rfl
    rw [hkeys, List.getElem?_map] at e3
    cases e4 : ks[j]? with
    | none => rw [e4] at e3; cases e3
    | some y =>
      rw [e4] at e3
      have e5 : Sum.inl y = k := Option.some.inj e3
      subst e5
      rcases keyIs_shape (show keyIs (Sum.inl y) v = true from e2) with ⟨i, t, ek, ev⟩ | ⟨z, t, ek, ev⟩
      · cases ek
        exact ⟨y, t, rfl, ev⟩
      · cases ek
  have I1 : Inv X pins σ H { s with heap := h', toks := tk } := I.kept hk
  have hz : acc.toList.length ≤ sizeLine := by rw [hal, ← hl]; exact h16
  refine wpAny_bind (wpAny_newList ?_ hz)
  have hoL : (h'.push (seqObj "list" acc.toList.toArray 0)).get? h'.objs.size = some (seqObj "list" acc.toList.toArray 0) := Heap.get?_push_size _ rfl
  show wpAny _ _ _ _ _ { s with heap := h'.push (seqObj "list" acc.toList.toArray 0), toks := tk }
  refine wpAny_bind (wpAny_holding (wpAny_call_entry PyProof.Rows.slot_list_sort ⟨_, hoL, rfl⟩ PyProof.Rows.entry_list_sort
    (SrtO.list_sort_ord (s := { s with heap := h'.push (seqObj "list" acc.toList.toArray 0), toks := tk }) SrtO.swo_int hoL hz (fun h2 => SrtO.ints_sortable hS h2) fun out g1 g2 => ⟨_, rfl, ?_⟩) (PyProof.Rows.args_list_sort _)))
  obtain ⟨k1, k2, k3⟩ := SrtO.ints_out hS g1 g2
  obtain ⟨e', he'⟩ := PyProof.Rows.sortedHeap_at (vs := acc.toList) (out := out.toArray) hoL
  have hlen : ((out.map SrtO.iv).map V.int).length ≤ sizeLine := by
    rw [List.length_map, k2.length_eq, ← hal]; exact hz
  refine wpAny_pure ⟨_, rfl, .ref h'.objs.size, upd H h'.objs.size (.lst ((out.map SrtO.iv).map V.int)), I1.laid (t' := tk) (fun b u e => ?_) (Nat.le_refl _)
    (show ObjOk X.prog X.w _ _ _ (.lst ((out.map SrtO.iv).map V.int)) from ⟨hlen, out, e', vals_of_ints k1, he'⟩), rfl, q _ _ k2 k3 (I1.hok.fresh (Nat.le_refl _))⟩
  have hb : b < h'.objs.size := Heap.lt_size e
  rw [PyProof.Rows.sortedHeap_old (Nat.ne_of_lt hb) (by rw [size_push']; exact Nat.lt_succ_of_lt hb)]
  exact Heap.get?_push_of_some _ e
end
/-- a key as data -/
def kD : Key → D
  | .inl i => .int i
  | .inr s => .str s
section
variable {K : PySem.W.Frag} {F : Hp} {h : AH} {H : Hp}
theorem kD_rep {F : Hp} (k : Key) : Rep K F (kD k) (kV k) := by
  cases k with
  | inl i => exact .int i
  | inr s => exact .str s
end
section
variable {X : Cx}
def dSortD (m : Bool) (ds : List D) (h : AH) (Q : KD) : Prop := ∃ (x : D) (kvs : List (Key × D)) (ks : List Int), ds = [x] ∧ dkOf h x = some kvs ∧ kvs.map (·.1) = ks.map Sum.inl ∧ ∀ ys : List Int, ys.Perm ks → ys.Pairwise (· ≤ ·) → newL m (ys.map D.int) h Q
theorem reps_intsD {K : PySem.W.Frag} {F : Hp} : ∀ ns : List Int, Reps K F (ns.map D.int) (ns.map V.int)
  | [] => .nil
  | n :: ns => .cons (.int n) (reps_intsD ns)
theorem dSortD_ok {m : Bool} (hc : X.calm = true) : CaD X (.builtin "sorted") (dSortD m) where
  ex := ⟨_, cr_sortedDK hc, fun {F h H ds vs Q} S r q => by
    obtain ⟨x, kvs, ks, rfl, e, hk, q⟩ := q
    obtain ⟨v, rfl, r1⟩ := r.one
    obtain ⟨a, us, rfl, ha, rs⟩ := S.dkOf r1 e
    exact ⟨a, us, ks, rfl, .of ha, by rw [← rs.keys]; exact hk, fun ys p h1 h2 h3 => S.newL (reps_intsD ys) (q ys h1 h2) p h3⟩⟩
  mo := fun {ds h Q Q'} hq ⟨x, kvs, ks, e, e2, e3, q⟩ => ⟨x, kvs, ks, e, e2, e3, fun ys h1 h2 => newL_mo hq (q ys h1 h2)⟩
end
end DL
namespace DL
open PySem PySem.Spec L2 C8 PyProof.Rows
/-! ### dict(t), t a tuple of pairs -/
end DL
namespace DL
open PySem PySem.Spec L2 C8 PyProof.Rows
section
variable {X : Cx}
theorem Paired.imp {α β : Type} {F G : α → β → Prop} (h : ∀ a b, F a b → G a b) : ∀ {xs : List α} {ys : List β}, Paired F xs ys → Paired G xs ys
  | _, _, .nil => .nil
  | _, _, .cons p t => .cons (h _ _ p) (Paired.imp h t)
end
end DL
namespace DL
open PySem PySem.Spec L2 C8
/-! ### a dict written out; an empty one that does not change -/
section
variable {X : Cx} {E : XK} {pos : Pos}
def wDnewF : WE := fun _ h Q _ => Q (.dK []) h
theorem ae_dnewF : AE X E (.Dict [] [] pos) wDnewF := by
  refine ⟨PE.imp pe_dnewK fun σ H Q ⟨F, ρ, h, S, R, q⟩ => ?_, fun ρ h Q Q' X X' hq _ q => hq _ _ q⟩
  intro p hp
  obtain ⟨f, g⟩ := S.free hp
  exact q _ _ _ (ext_upd f) (S.newF hp (.dK [])) (.dK upd_same .nil)
theorem RepK.len {K : PySem.W.Frag} {F : Hp} {kvs : List (Key × D)} {vs : List (Key × V)} (r : RepK K F kvs vs) : kvs.length = vs.length := by
  induction kvs generalizing vs with
  | nil => cases r; rfl
  | cons x xs ih => cases r with | cons h t => rw [List.length_cons, List.length_cons, ih t]
end
end DL
namespace DL
open PySem PySem.Spec L2 C8
/-! ### repr of data within which empty dicts may stand -/
mutual
def pq : D → PyData
  | .non => .none
  | .bl b => .bool b
  | .int i => .int i
  | .str s => .str s
  | .tup xs => .tuple (pqs xs)
  | .tpl xs => .tuple (pqs xs)
  | .lst xs => .list (pqs xs)
  | .ref _ => .none
  | .ty _ => .none
  | .lk _ => .none
  | .ob _ _ => .none
  | .xob _ _ => .none
  | .lam _ _ _ _ _ => .none
  | .dK _ => .dict []
  | .dT _ => .none
def pqs : List D → List PyData
  | [] => []
  | x :: xs => pq x :: pqs xs
end
mutual
def dq : D → Bool
  | .non => true
  | .bl _ => true
  | .int _ => true
  | .str _ => true
  | .tup xs => dqs xs
  | .tpl xs => dqs xs
  | .lst xs => dqs xs
  | .ref _ => false
  | .ty _ => false
  | .lk _ => false
  | .ob _ _ => false
  | .xob _ _ => false
  | .lam _ _ _ _ _ => false
  | .dK kvs => kvs.isEmpty
  | .dT _ => false
def dqs : List D → Bool
  | [] => true
  | x :: xs => dq x && dqs xs
end
mutual
inductive Dq (K : PySem.W.Frag) (H : Hp) : V → PyData → Prop
  | non : Dq K H .non .none
  | bl (b : Bool) : Dq K H (.bl b) (.bool b)
  | int (i : Int) : Dq K H (.int i) (.int i)
  | str (x : Str) : Dq K H (.str x) (.str x)
  | lst {a : Addr} {xs : List V} {ds : List PyData} : H a = some (.lst xs) → DqAll K H xs ds → Dq K H (.ref a) (.list ds)
  | tup {a : Addr} {xs : List V} {ds : List PyData} : SqT K H a xs → DqAll K H xs ds → Dq K H (.ref a) (.tuple ds)
  | dic {a : Addr} : H a = some (.dK []) → Dq K H (.ref a) (.dict [])
inductive DqAll (K : PySem.W.Frag) (H : Hp) : List V → List PyData → Prop
  | nil : DqAll K H [] []
  | cons {v : V} {vs : List V} {d : PyData} {ds : List PyData} : Dq K H v d → DqAll K H vs ds → DqAll K H (v :: vs) (d :: ds)
end
section
variable {K : PySem.W.Frag} {F H : Hp}
mutual
theorem Rep.dq (e : ∀ a o, F a = some o → H a = some o) : ∀ {d : D} {v : V}, Rep K F d v → DL.dq d = true → Dq K H v (pq d)
  | _, _, .non, _ => by rw [pq]; exact .non
  | _, _, .bl b, _ => by rw [pq]; exact .bl b
  | _, _, .int i, _ => by rw [pq]; exact .int i
  | _, _, .str s, _ => by rw [pq]; exact .str s
  | _, _, .ref _, q => by rw [DL.dq] at q; cases q
  | _, _, .ty _, q => by rw [DL.dq] at q; cases q
  | _, _, .lk _ _, q => by rw [DL.dq] at q; cases q
  | _, _, .ob _ _, q => by rw [DL.dq] at q; cases q
  | _, _, .dT _ _, q => by rw [DL.dq] at q; cases q
  | _, _, .tup h r, q => by rw [DL.dq] at q; rw [pq]; exact .tup (sqt_of e h) (Reps.dq e r q)
  | _, _, .tpl h hd r, q => by rw [DL.dq] at q; rw [pq]; exact .tup (sqt_of e (.inl (.inr ⟨_, h⟩))) (Reps.dq e r q)
  | _, _, .lst h r, q => by rw [DL.dq] at q; rw [pq]; exact .lst (e _ _ h) (Reps.dq e r q)
  | .dK [], _, .dK h .nil, q => by rw [pq]; exact .dic (e _ _ h)
  | .dK (_ :: _), _, .dK h r, q => by rw [DL.dq] at q; cases q
theorem Reps.dq (e : ∀ a o, F a = some o → H a = some o) : ∀ {ds : List D} {vs : List V}, Reps K F ds vs → dqs ds = true → DqAll K H vs (pqs ds)
  | _, _, .nil, _ => by rw [pqs]; exact .nil
  | _, _, .cons r t, q => by
    rw [dqs, Bool.and_eq_true] at q
    rw [pqs]
    exact .cons (Rep.dq e r q.1) (Reps.dq e t q.2)
end
end
section
variable {X : Cx} {pins : List (Addr × Obj)} {σ : L2.St} {H : Hp} {s : Shared}
theorem dic_at (I : Inv X pins σ H s) {a : Addr} (h1 : H a = some (.dK [])) : (a == sysModules) = false ∧ ∃ o ep, s.heap.get? a = some o ∧ o.cls = .type "dict" ∧ o.data = .dict #[] ep := by
  obtain ⟨_, hm, vs, kv, ⟨o, es, ep, ho, hx, hd, _, hp, _⟩⟩ := dk_of I.hok h1
  cases kv
  have le := Pairs.length hp
  have ee : es.toList = [] := List.length_eq_zero_iff.mp (by rw [le]; rfl)
  obtain ⟨l⟩ := es
  have ee : l = [] := ee
  subst ee
  exact ⟨hm, o, ep, ho, hx.1, hd⟩
mutual
theorem Dq.rk (I : Inv X pins σ H s) : ∀ (d : PyData) (v : V) (u : Value), Dq X.K H v d → RelV v u → d.showable = true → d.shown.length ≤ sizeLine →
    ∃ as bs, Reads s.heap u d as ∧ ReadAtMost s.heap d.depth bs ∧ ReprK X.prog X.w bs s.heap d.depth u d.shown
  | .none, _, _, h, r, _, _ => by
    cases h
    cases r
    exact ⟨_, [], Reads.none, (fun _ h => nomatch h), by simp only [PyData.shown]; exact .of_is ReprIs.none _ _ _⟩
  | .bool b, _, _, h, r, _, _ => by
    cases h
    cases r
    exact ⟨_, [], Reads.bool b, (fun _ h => nomatch h), by simp only [PyData.shown]; exact .of_is (ReprIs.bool b) _ _ _⟩
  | .int i, _, _, h, r, hs, _ => by
    cases h
    obtain ⟨t, rfl⟩ := r
    exact ⟨_, [], Reads.int i t, (fun _ h => nomatch h), by simp only [PyData.shown]; exact .of_is (ReprIs.int t (by simpa [PyData.showable] using hs)) _ _ _⟩
  | .str x, _, _, h, r, _, hz => by
    cases h
    obtain ⟨t, rfl⟩ := r
    exact ⟨_, [], Reads.str x t, (fun _ h => nomatch h), by simp only [PyData.shown]; exact .of_is (ReprIs.str x t (by simpa only [PyData.shown] using hz)) _ _ _⟩
  | .list ds, _, _, h, r, hs, hz => by
    cases h with
    | @lst a xs _ h1 ha =>
      cases r
      obtain ⟨its, rv, ⟨o, n, ho, hc, _, hd⟩, _⟩ := I.list (.of h1)
      have hz' : (listText (PyData.shownAll ds)).length ≤ sizeLine := by simpa only [PyData.shown] using hz
      obtain ⟨as, bs, hr, hb, hk⟩ := Dq.rkAll I ds _ its ha rv (by simpa [PyData.showable] using hs) (fun t ht => Nat.le_trans (listText_mem_le ht) hz')
      have r : Reads s.heap (.ref a) (.list ds) _ := .list ho hc hd hr
      have hna : a ∉ bs := not_mem_of_deeper r (by simp only [PyData.depth]; omega) hb
      refine ⟨_, a :: bs, r, ReadAtMost.cons r (by simp only [PyData.depth]; omega) hb, ?_⟩
      simp only [PyData.depth, PyData.shown]
      cases its with
      | nil =>
        cases hr
        simp only [PyData.shownAll, listText_nil]
        exact ReprK.listEmpty ho hc hd
      | cons x l => exact ReprK.list ho hc hd hna (by simpa using hk.length_eq) (fun i y e => hk.item i y (by simpa using e))
  | .tuple ds, _, _, h, r, hs, hz => by
    cases h with
    | @tup a xs _ h1 ha =>
      cases r
      obtain ⟨its, rv, ⟨o, ho, hc, n, hd⟩, _⟩ := I.tuple h1
      have hz' : (tupleText (PyData.shownAll ds)).length ≤ sizeLine := by simpa only [PyData.shown] using hz
      obtain ⟨as, bs, hr, hb, hk⟩ := Dq.rkAll I ds _ its ha rv (by simpa [PyData.showable] using hs) (fun t ht => Nat.le_trans (tupleText_mem_le ht) hz')
      have r : Reads s.heap (.ref a) (.tuple ds) _ := .tuple ho hc hd hr
      have hna : a ∉ bs := not_mem_of_deeper r (by simp only [PyData.depth]; omega) hb
      refine ⟨_, a :: bs, r, ReadAtMost.cons r (by simp only [PyData.depth]; omega) hb, ?_⟩
      simp only [PyData.depth, PyData.shown]
      exact ReprK.tuple ho hc hd hna hk
  | .dict _, _, _, h, r, _, _ => by
    cases h with
    | @dic a h1 =>
      cases r
      obtain ⟨hm, o, ep, ho, hc, hd⟩ := dic_at I h1
      have r : Reads s.heap (.ref a) (.dict []) _ := .dict (as := []) (bs := []) (kvs := []) ho hc hd .nil .nil
      refine ⟨_, [a], r, ReadAtMost.cons r (Nat.le_refl _) (fun _ h => nomatch h), ?_⟩
      exact ReprK.dict (as := []) ho hc hd hm (fun h => nomatch h) .nil
theorem Dq.rkAll (I : Inv X pins σ H s) : ∀ (ds : List PyData) (vs : List V) (us : List Value), DqAll X.K H vs ds → Vals vs us → PyData.showableAll ds = true → (∀ t ∈ PyData.shownAll ds, t.length ≤ sizeLine) →
    ∃ as bs, ReadsAll s.heap us ds as ∧ ReadAtMost s.heap (PyData.depthAll ds) bs ∧ ReprAllK X.prog X.w bs s.heap (PyData.depthAll ds) us (PyData.shownAll ds)
  | [], _, _, h, r, _, _ => by
    cases h
    cases r
    exact ⟨_, [], ReadsAll.nil, (fun _ h => nomatch h), by simp only [PyData.shownAll]; exact .nil⟩
  | d :: ds, _, _, h, r, hs, hz => by
    cases h with
    | cons h1 h2 =>
      cases r with
      | cons r1 r2 =>
        have hs' : d.showable = true ∧ PyData.showableAll ds = true := by simpa [PyData.showableAll] using hs
        obtain ⟨as, b1, q1, hb1, k1⟩ := Dq.rk I d _ _ h1 r1 hs'.1 (hz _ (by simp only [PyData.shownAll]; exact List.mem_cons_self ..))
        obtain ⟨cs, b2, q2, hb2, k2⟩ := Dq.rkAll I ds _ _ h2 r2 hs'.2 (fun t ht => hz t (by simp only [PyData.shownAll]; exact List.mem_cons_of_mem _ ht))
        refine ⟨_, b1 ++ b2, ReadsAll.cons q1 q2, ?_, ?_⟩
        · intro b hm
          simp only [PyData.depthAll]
          rcases List.mem_append.mp hm with hm | hm
          · obtain ⟨d', as', r', hd'⟩ := hb1 b hm
            exact ⟨d', as', r', Nat.le_trans hd' (Nat.le_max_left _ _)⟩
          · obtain ⟨d', as', r', hd'⟩ := hb2 b hm
            exact ⟨d', as', r', Nat.le_trans hd' (Nat.le_max_right _ _)⟩
        · simp only [PyData.depthAll, PyData.shownAll]
          exact .cons ((k1.more fun b hb => List.mem_append_left _ hb).level_le (Nat.le_max_left _ _)) (k2.more_le (fun b hb => List.mem_append_right _ hb) (Nat.le_max_right _ _))
end
theorem Dq.shows (I : Inv X pins σ H s) {d : PyData} {a : Addr} (h : Dq X.K H (.ref a) d) (hs : d.showable = true) (hsz : d.shown.length ≤ sizeLine) : ∃ T idr, ShowsBy X.prog X.w s.heap a d T idr := by
  cases h with
  | @lst _ xs ds h1 ha =>
    obtain ⟨its, rv, ⟨o, n, ho, hc, _, hd⟩, _⟩ := I.list (.of h1)
    have hz' : (listText (PyData.shownAll ds)).length ≤ sizeLine := by simpa only [PyData.shown] using hsz
    obtain ⟨as, bs, hr, hb, hk⟩ := Dq.rkAll I ds _ its ha rv (by simpa [PyData.showable] using hs) (fun t ht => Nat.le_trans (listText_mem_le ht) hz')
    have hna : a ∉ bs := not_mem_of_deeper (.list ho hc hd hr) (by simp only [PyData.depth]; omega) hb
    refine ⟨"list", "list.__repr__", F.slot_list_repr.toG, F.slot_list_str, F.slot_list_format, fun s' hk0 => ⟨o, hk0 _ _ ho, hc⟩, fun A E s' Q hg hu hk0 hQ => ?_⟩
    simp only [PyData.depth] at hu
    simp only [PyData.shown] at hQ
    cases its with
    | nil =>
      cases hr
      simp only [PyData.shownAll, listText_nil] at hQ
      exact call_list_repr_empty ⟨o, hk0 _ _ ho, hc⟩ (hk0 _ _ ho) hd (hQ s'.heap _ _ fun _ _ e => e)
    | cons x l => exact call_list_reprK ho hc hd hna (by simpa using hk.length_eq) (fun i y e => hk.item i y (by simpa using e)) hg (fun b _ => Clear.nil b) hu hk0 hQ hz'
  | @tup _ xs ds h1 ha =>
    obtain ⟨its, rv, ⟨o, ho, hc, n, hd⟩, _⟩ := I.tuple h1
    have hz' : (tupleText (PyData.shownAll ds)).length ≤ sizeLine := by simpa only [PyData.shown] using hsz
    obtain ⟨as, bs, hr, hb, hk⟩ := Dq.rkAll I ds _ its ha rv (by simpa [PyData.showable] using hs) (fun t ht => Nat.le_trans (tupleText_mem_le ht) hz')
    have hna : a ∉ bs := not_mem_of_deeper (.tuple ho hc hd hr) (by simp only [PyData.depth]; omega) hb
    refine ⟨"tuple", "tuple.__repr__", F.slot_tuple_repr, F.slot_tuple_str, F.slot_tuple_format, fun s' hk0 => ⟨o, hk0 _ _ ho, hc⟩, fun A E s' Q hg hu hk0 hQ => ?_⟩
    simp only [PyData.depth] at hu
    simp only [PyData.shown] at hQ
    exact call_tuple_reprK ho hc hd hna hk hg (fun b _ => Clear.nil b) hu hk0 hQ hz'
  | dic h1 =>
    obtain ⟨hm, o, ep, ho, hc, hd⟩ := dic_at I h1
    refine ⟨"dict", "dict.__repr__", F.slot_dict_repr, F.slot_dict_str, F.slot_dict_format, fun s' hk0 => ⟨o, hk0 _ _ ho, hc⟩, fun A E s' Q hg hu hk0 hQ => ?_⟩
    simp only [PyData.depth] at hu
    simp only [PyData.shown] at hQ
    exact call_dict_reprK (as := []) ho hc hd hm (fun h => nomatch h) .nil hg (fun b _ => Clear.nil b) hu hk0 hQ hsz
theorem call_reprQ (hg : X.A.guards = some []) (hu : X.A.units + 64 < cLine) : CallR X (.builtin "repr") (fun vs H Q => ∃ x d, vs = [x] ∧ Dq X.K H x d ∧ d.showable = true ∧ d.depth ≤ 60 ∧ d.shown.length ≤ sizeLine ∧ Q (.str d.shown) H) := by
  intro pins s σ H xs us Q I r h
  obtain ⟨x, d, rfl, hd, hs, dp, hz, q⟩ := h
  obtain ⟨u, rfl, rx⟩ : ∃ u, us = [u] ∧ RelV x u := by cases r with | cons r t => cases t; exact ⟨_, rfl, r⟩
  have refs : ∀ {a : Addr}, Dq X.K H (.ref a) d → wpAny (model X.prog X.w) X.A (call (.builtin "repr") [.ref a]) (EP X pins σ Q) X.xe s := fun {a} hd => by
    obtain ⟨T, idr, S⟩ := Dq.shows I hd hs hz
    exact call_repr_slot (by omega) (S.typeIs s fun _ _ z => z) S.slotRepr (S.call X.A.in1 X.xe s _ hg (by show X.A.units + 1 + d.depth < cLine; omega) (fun _ _ z => z) fun h' u tk hk => ⟨_, _, rfl, ⟨.str _, H, I.kept hk, ⟨_, rfl⟩, q⟩⟩)
  cases hd with
  | non => cases rx; exact PySem.P.repr_of_none ⟨.str _, H, I.tok _, ⟨_, rfl⟩, by rw [PyData.shown] at q; exact q⟩
  | bl b => cases rx; exact PySem.P.repr_of_bool ⟨.str _, H, I.tok _, ⟨_, rfl⟩, by rw [PyData.shown] at q; exact q⟩
  | int i =>
    obtain ⟨t, rfl⟩ := rx
    refine PySem.P.repr_of_int (by rw [PyData.showable] at hs; exact of_decide_eq_true hs) ⟨.str _, H, I.tok _, ⟨_, rfl⟩, by rw [PyData.shown] at q; exact q⟩
  | str x =>
    obtain ⟨t, rfl⟩ := rx
    exact PySem.P.repr_of_str ⟨.str _, H, I.tok _, ⟨_, rfl⟩, by rw [PyData.shown] at q; exact q⟩ (by rw [PyData.shown] at hz; exact hz)
  | lst h1 h2 => cases rx; exact refs (.lst h1 h2)
  | tup h1 h2 => cases rx; exact refs (.tup h1 h2)
  | dic h1 => cases rx; exact refs (.dic h1)
def dReprQ (ds : List D) (h : AH) (Q : KD) : Prop := ∃ x, ds = [x] ∧ dq x = true ∧ (pq x).showable = true ∧ (pq x).depth ≤ 60 ∧ (pq x).shown.length ≤ sizeLine ∧ Q (.str (pq x).shown) h
theorem dReprQ_ok (hg : X.A.guards = some []) (hu : X.A.units + 64 < cLine) : CaD X (.builtin "repr") dReprQ where
  ex := ⟨_, call_reprQ hg hu, fun {F h H ds vs Q} S r q => by
    obtain ⟨x, rfl, e1, e2, e3, e4, q⟩ := q
    obtain ⟨v, rfl, r1⟩ := r.one
    exact ⟨v, _, rfl, Rep.dq S.fz r1 e1, e2, e3, e4, q.at S (.str _)⟩⟩
  mo := fun {ds h Q Q'} hq ⟨x, e, e1, e2, e3, e4, q⟩ => ⟨x, e, e1, e2, e3, e4, hq _ _ q⟩
end
end DL
namespace PySem.W
open PySem PySem.Spec PySem.Calls PyProof.Rows
end PySem.W
namespace DL
open PySem PySem.Spec L2 C8
end DL
namespace DL
open PySem PySem.Spec L2 C8
/-! ### the draw of the laws k01-k11, k47-k57, k96-k99 -/
end DL
namespace DL
open PySem PySem.Spec L2 C8 PyProof.Rows
/-! ### max(d, default=x), d with int keys -/
section
variable {X : Cx}
def rMaxDd : List V → List V → Hp → VK → Prop := fun xs zs H Q => ∃ (a : Addr) (z : V) (kvs : List (Key × V)) (ks : List Int), xs = [.ref a] ∧ zs = [z] ∧ H a = some (.dK kvs) ∧ kvs.map (·.1) = ks.map Sum.inl ∧ (ks = [] → Q z H) ∧ ∀ m, m ∈ ks → (∀ y ∈ ks, y ≤ m) → Q (.int m) H
theorem cr_maxDd (hc : X.calm = true) : CallRK X (.builtin "max") ["default"] (rMaxDd) := by
  intro pins s σ H xs zs us ws Q I r rz h
  obtain ⟨a, z, kvs, ks, rfl, rfl, ha, hks, q0, q1⟩ := h
  obtain rfl := Vals.ref1 r
  obtain ⟨zv, rfl, rzv⟩ := vals1 rz
  obtain ⟨zl, lo, vs, rel, dd⟩ := (show ObjOk X.prog X.w H s.heap a (.dK kvs) from I.hok a _ ha)
  obtain ⟨ep, hat⟩ := dd.dictAt
  have hkeys : vs.map (·.1) = ks.map Sum.inl := (KV.keys rel).symm.trans hks
  have hl : vs.length = ks.length := by
    have e := congrArg List.length hkeys
    rw [List.length_map, List.length_map] at e
    exact e
  have hlt : a < s.heap.objs.size := hat.lt_size
  have pv : ∀ (i : Nat) (v : Value), (∃ k x, vs[i]? = some (k, x) ∧ (mixKind X.prog X.w).is k v = true) → ∃ t, v = .int (ks.getD i 0) t := fun i v ⟨k, x, e1, e2⟩ => by
    have e3 : (vs.map (·.1))[i]? = some k := by rw [List.getElem?_map, e1]; rfl
    rw [hkeys, List.getElem?_map] at e3
    cases e4 : ks[i]? with
    | none => rw [e4] at e3; cases e3
    | some y =>
      rw [e4] at e3
      have e5 : Sum.inl y = k := Option.some.inj e3
      subst e5
      rcases keyIs_shape (show keyIs (Sum.inl y) v = true from e2) with ⟨i, t, ek, ev⟩ | ⟨z, t, ek, ev⟩
      · cases ek
        exact ⟨t, by rw [ev, List.getD_eq_getElem?_getD, e4]; rfl⟩
      · cases ek
  show wpAny _ _ (call (.builtin "max") [.ref a] [(Str.ofString "default", zv)]) _ _ _
  refine call_max_walkD (wpAny_pyIter_dict lo hat ?_)
  refine ⟨s.heap.objs.size, _, _, _, vs.length, _, _, s.heap, (fun i j => decide (ks.getD i 0 > ks.getD j 0)), rfl, (Walks.dictKeys (A := X.A.in1) (knd := mixKind X.prog X.w) (I.ok.hd hc) s.heap.objs.size a (Nat.ne_of_lt hlt) vs ep).toS, ⟨⟨_, Heap.get?_push_size _ rfl, rfl, rfl⟩, hat.push _⟩, fun b hb => ?_, fun b o e hb => ?_, fun b o e => Heap.get?_push_of_some _ e, fun hn s' hm => ?_, fun hn => ⟨fun i j vi vj s Q E _ h1 h2 h3 => CmpOf.ints_gt (fun i => ks.getD i 0) pv i j vi vj s Q E h1 h2 h3, fun v s' hP hm => ?_⟩⟩
  · show b < (s.heap.push _).objs.size
    rw [Heap.size_push]
    rcases List.mem_cons.mp hb with rfl | hb
    · exact Nat.lt_succ_self _
    · rcases List.mem_cons.mp hb with rfl | hb
      · exact Nat.lt_succ_of_lt hlt
      · cases hb
  · exact absurd (Heap.lt_size e) ((List.mem_singleton.mp hb) ▸ Nat.lt_irrefl _)
  · obtain ⟨h', tk, rfl, hk'⟩ := PySem.W.moved_old rfl rfl hm
    exact ⟨z, H, I.kept hk', rzv, q0 (List.eq_nil_of_length_eq_zero (by omega))⟩
  · obtain ⟨h', tk, rfl, hk'⟩ := PySem.W.moved_old rfl rfl hm
    obtain ⟨t, rfl⟩ := pv _ v hP
    obtain ⟨h1, h2⟩ := argBest_gt (fun i => ks.getD i 0) (vs.length - 1)
    refine ⟨.int _, H, I.kept hk', ⟨t, rfl⟩, q1 _ ?_ fun y hy => ?_⟩
    · exact PySem.getD_mem (by omega)
    · obtain ⟨j, hj, rfl⟩ := mem_getD hy
      exact h2 j (by omega)
end
section
variable {X : Cx} {E : XK} {gz : Bool} {k : Nat} {o e : Expr} {wo wv : WE} {pos p kpos : Pos}
def wMaxDd (wl wk : WA) : WE := fun ρ h Q X => wl ρ h (fun xs h1 => wk ρ h1 (fun zs h2 => ∃ (x z : D) (kvs : List (Key × D)) (ks : List Int), xs = [x] ∧ zs = [z] ∧ dkOf h2 x = some kvs ∧ kvs.map (·.1) = ks.map Sum.inl ∧ (ks = [] → Q z h2) ∧ ∀ m, m ∈ ks → (∀ y ∈ ks, y ≤ m) → Q (.int m) h2) X) X
theorem ae_maxDd {wl wk : WA} (hm : X.mg "max" = none) (c : Cg gz X E k) (A1 : AA X E [o] wl) (A2 : AK X E [⟨some "default", e, kpos⟩] wk) (hg : Gl X "max" := by rfl)
    (he : backTo pos (starEach [o] X.env) = (false, eval o X.env) :: backTo pos (starEach [] X.env) := by rfl) (hpl : (backTo pos (starEach [o] X.env)).any (·.1) = false := by rfl)
    (hall : (backToKw pos (keywordEach [⟨some "default", e, kpos⟩] X.env)).all (·.1.isSome) = true := by rfl) (hnone : (backToKw pos (keywordEach [⟨some "default", e, kpos⟩] X.env)).any (·.1.isNone) = false := by rfl) (hks : (backToKw pos (keywordEach [⟨some "default", e, kpos⟩] X.env)).filterMap (·.1) = [("default" : Str)] := by rfl) :
    AE X E (.Call (.Name "max" p) [o] [⟨some "default", e, kpos⟩] pos) (wMaxDd wl wk) := by
  refine ⟨PE.imp (pe_callBK (cr_maxDd c.calm) hg hm bb_max A1.run A2.run (he := he) (hpl := hpl) (hall := hall) (hnone := hnone) (hks := hks)) fun σ H Q ⟨F, ρ, h, S, R, q⟩ => ?_, fun ρ h Q Q' X X' hq hx q => A1.mo _ _ _ _ _ _ (fun xs h1 z => A2.mo _ _ _ _ _ _ (fun zs h2 ⟨x, y, kvs, ks, e1, e2, e3, e4, z1, z2⟩ => ⟨x, y, kvs, ks, e1, e2, e3, e4, fun e => hq _ _ (z1 e), fun m h1 h2 => hq _ _ (z2 m h1 h2)⟩) hx z) hx q⟩
  refine ⟨F, ρ, h, S, R, A1.mo _ _ _ _ _ _ (fun xs h1 z => ?_) (fun _ _ z => z) q⟩
  intro F1 H1 vs e1 S1 rs
  refine ⟨F1, ρ, h1, S1, R.ext e1, A2.mo _ _ _ _ _ _ (fun zs h2 z => ?_) (fun _ _ z => LX.ext e1 z) z⟩
  intro F2 H2 ws e2 S2 rw'
  obtain ⟨x, y, kvs, ks, rfl, rfl, d1, d2, z1, z2⟩ := z
  obtain ⟨vx, rfl, rx⟩ := rs.one
  obtain ⟨vy, rfl, ry⟩ := rw'.one
  obtain ⟨a, us, rfl, hu, rk⟩ := S2.dkOf (rx.ext e2) d1
  exact ⟨a, vy, us, ks, rfl, rfl, hu, by rw [← rk.keys]; exact d2, fun e => (LQ.ext (e1.trans e2) (z1 e)).at S2 ry, fun m h1 h2 => (LQ.ext (e1.trans e2) (z2 m h1 h2)).at S2 (.int m)⟩
end
end DL
namespace DL
open PySem PySem.Spec L2 C8 PyProof.Rows
/-! ### tuple(d.items()) -/
section
variable {prog : Program} {w : World} {A : Around} {E : Value → Shared → Prop} {s : Shared} {K : Type} [DecidableEq K] {knd : KeyKind prog w K} {r d : Addr} {kvs : List (K × Value)} {ep : Nat}
theorem code_tuple_new_view {Q₁ : Value → Shared → Prop} (hh : A.handled = none) (hv : s.heap.IsItemsView r d) (hm : s.heap.DictAt knd d kvs ep) (hn : kvs.length ≤ sizeLine)
    (h : ∀ (h' : Heap) (tk : Nat) (as : List Addr), (∀ b o, s.heap.get? b = some o → h'.get? b = some o) → as.length = kvs.length → PySem.W.KdxG knd kvs s.heap.objs.size h' as →
      Q₁ (.ref h'.objs.size) { s with heap := h'.push { cls := .type "tuple", data := .seq (as.map Value.ref).toArray }, toks := tk }) :
    codeAny (model prog w) A (.call (.builtin "tuple.__new__") ⟨[.type "tuple", .ref r], []⟩) (wants Q₁ E) s := by
  refine codeAny_of_tree ?_
  show wpAny _ A.in1 (do checkBuiltinCall "tuple.__new__" ⟨[.type "tuple", .ref r], []⟩; again (.builtin "tuple.__new__" ⟨[.type "tuple", .ref r], []⟩)) _ _ s
  refine wpAny_bind (wpAny_of_eq (F.newCall_tuple_1 _) (wpAny_pure ⟨plainId_quiet F.plain_tuple_new _, codeAny_builtin F.entry_tuple_new ?_⟩))
  rw [Around.under_plainId F.plain_tuple_new _]
  have hsub := sub_tuple_self
  have hinit := init_tuple_lookup
  have hmh := madeHere_tuple
  have hTI : s.TypeIs (.ref r) "dict_items" := hv.typeIs
  have hh1 : A.in1.handled = none := hh
  wp_walk using wpAny_typeOf hTI, PySem.W.kdx_collect (A := A.in1) hh1 hv hm hn
  intro h' tk as hk hl hG
  show wpAny _ _ (Builtin.Tuple.tupleExact (as.map Value.ref).toArray >>= fun v => ret v) _ _ _
  unfold Builtin.Tuple.tupleExact
  refine wpAny_bind (wpAny_newObj_type ?_ (by show (as.map Value.ref).toArray.size ≤ sizeLine; rw [List.size_toArray, List.length_map, hl]; exact hn))
  refine wpAny_pure ?_
  exact h h' tk as hk hl hG
theorem call_tuple_view {Q : Value → Shared → Prop} (hh : A.handled = none) (hv : s.heap.IsItemsView r d) (hm : s.heap.DictAt knd d kvs ep) (hn : kvs.length ≤ sizeLine)
    (hQ : ∀ (h' : Heap) (tk : Nat) (as : List Addr), (∀ b o, s.heap.get? b = some o → h'.get? b = some o) → as.length = kvs.length → PySem.W.KdxG knd kvs s.heap.objs.size h' as →
      Q (.ref h'.objs.size) { s with heap := h'.push { cls := .type "tuple", data := .seq (as.map Value.ref).toArray }, toks := tk }) :
    wpAny (model prog w) A (call (.type "tuple") [.ref r]) Q E s := by
  refine callType_codes (Q₁ := fun obj s₁ => s₁.TypeIs obj "tuple" ∧ Q obj s₁) F.called_tuple (F.typeCall_tuple_1 _) F.entry_object_init
    (code_tuple_new_view (A := A.in1) hh hv hm hn fun h' tk as hk hl hG => ⟨⟨_, Heap.get?_push_size _ rfl, rfl⟩, hQ h' tk as hk hl hG⟩) fun obj s₁ h₁ => ?_
  exact ⟨h₁.1, F.args_object_init_2 obj _, object_init_meets F.called_tuple.init.lookup F.called_tuple.made (by decide) prog w A.in1 _ s₁ ⟨h₁.1, rfl, h₁.2⟩⟩
end
section
variable {X : Cx}
def rTupView : List V → Hp → VK → Prop := fun vs H Q => ∃ (p a : Addr) (kvs : List (Key × V)), vs = [.ref p] ∧ H p = some (L2.DX.itemsO p a) ∧ H a = some (.dK kvs) ∧
  ∀ (H' : Hp) (q : Addr) (ts : List Addr), (∀ b o, H b = some o → H' b = some o) → H q = none → (∀ t ∈ ts, H t = none ∧ t ≠ q) → H' q = some (.tup (ts.map V.ref)) → Paired (fun (t : Addr) (e : Key × V) => H' t = some (.tup [kV e.1, e.2])) ts kvs → Q (.ref q) H'
theorem paired_mk {α β : Type} {F : α → β → Prop} : ∀ {xs : List α} {ys : List β}, xs.length = ys.length → (∀ (j : Nat) x y, xs[j]? = some x → ys[j]? = some y → F x y) → Paired F xs ys
  | [], [], _, _ => .nil
  | [], _ :: _, h, _ => by cases h
  | _ :: _, [], h, _ => by cases h
  | x :: xs, y :: ys, h, f => .cons (f 0 x y rfl rfl) (paired_mk (Nat.succ.inj h) fun j x y h1 h2 => f (j + 1) x y (by simpa using h1) (by simpa using h2))
theorem cr_tupView (hc : X.calm = true) : CallR X (.type "tuple") rTupView := by
  intro pins s σ H xs us Q I r h
  obtain ⟨p, a, kvs, rfl, hp, ha, q⟩ := h
  obtain rfl := Vals.ref1 r
  have view : s.heap.IsItemsView p a := (show ObjOk X.prog X.w H s.heap p (L2.DX.itemsO p a) from I.hok p _ hp).1
  obtain ⟨z, lo, vs, rel, dd⟩ := (show ObjOk X.prog X.w H s.heap a (.dK kvs) from I.hok a _ ha)
  obtain ⟨ep, hat⟩ := dd.dictAt
  have lk : kvs.length = vs.length := Paired.length rel
  refine call_tuple_view (knd := mixKind X.prog X.w) (kvs := vs) (ep := ep) (I.ok.hd hc) view hat (by rw [← lk]; exact z) fun h' tk as hk hl hG => ?_
  have I1 : Inv X pins σ H { s with heap := h', toks := tk } := I.kept hk
  have nda : as.Nodup := List.Pairwise.imp (fun h => Nat.ne_of_lt h) hG.rise
  have lss : sizeLine = 16777216 := sizeLine_eq
  obtain ⟨H2, I2, sm, tup⟩ := L2.DX.takeT (P := fun b ws => ∃ (j : Nat) (e : Key × V), as[j]? = some b ∧ kvs[j]? = some e ∧ ws = [kV e.1, e.2]) I as H I1 nda fun b hb => by
    obtain ⟨j, hj⟩ := List.mem_iff_getElem?.mp hb
    have hbl : s.heap.objs.size ≤ b := Nat.le_of_lt (hG.above b hb)
    obtain ⟨key, k, x, f1, f2, f3⟩ := hG.pairs j b hj
    obtain ⟨e, he⟩ : ∃ e, kvs[j]? = some e := by
      have : j < kvs.length := by rw [lk]; exact (List.getElem?_eq_some_iff.mp f1).1
      exact ⟨_, List.getElem?_eq_getElem this⟩
    obtain ⟨y, g1, g2, g3⟩ := LiI.paired_get rel he
    rw [f1] at g1
    cases g1
    have rk : RelV (kV e.1) key := by
      rw [g2]
      exact relV_key (show keyIs k key = true from f2)
    exact ⟨hbl, I.hok.fresh hbl, _, ⟨j, e, hj, he, rfl⟩, fun H3 => ⟨by rw [lss]; show 2 ≤ 16777216; omega, _, .cons rk (.cons g3 .nil), ⟨_, f3, rfl, 0, rfl⟩⟩⟩
  have fresh : H2 h'.objs.size = none := I2.hok.fresh (Nat.le_refl _)
  have below : ∀ b ∈ as, b ≠ h'.objs.size := fun b hb e => by
    obtain ⟨_, _, z⟩ := tup b hb
    rw [e, fresh] at z; cases z
  have I3 : Inv X pins σ (upd H2 h'.objs.size (.tup (as.map V.ref))) { s with heap := h'.push { cls := .type "tuple", data := .seq (as.map Value.ref).toArray }, toks := tk } :=
    I2.laid (t' := tk) (fun b o e => Heap.get?_push_of_some _ e) (Nat.le_refl _) (show ObjOk X.prog X.w _ _ _ (.tup (as.map V.ref)) from ⟨by rw [List.length_map, hl, ← lk]; exact z, as.map Value.ref, LiI.vals_refs as, IsTup.new _ _⟩)
  refine ⟨.ref h'.objs.size, _, I3, rfl, q _ _ as (fun b o e => ?_) ?_ (fun t ht => ⟨I.hok.fresh (Nat.le_of_lt (hG.above t ht)), below t ht⟩) upd_same (paired_mk (by rw [hl, lk]) fun j t e h1 h2 => ?_)⟩
  · have := sm b o e
    rw [upd_ne (by rintro rfl; rw [fresh] at this; cases this)]
    exact this
  · cases e : H h'.objs.size with
    | none => rfl
    | some o => rw [sm _ _ e] at fresh; cases fresh
  · have hb := List.mem_of_getElem? h1
    obtain ⟨ws, ⟨j2, e2, g1, g2, rfl⟩, e3⟩ := tup t hb
    have : j2 = j := (List.getElem?_inj (List.getElem?_eq_some_iff.mp g1).1 nda).mp (g1.trans h1.symm)
    subst this
    rw [g2] at h2; cases h2
    rw [upd_ne (below t hb)]
    exact e3
end
/-- a pair of a dict as data -/
def kvD (e : Key × D) : D := .tup [kD e.1, e.2]
def wTupIt (wo : WE) : WE := fun ρ h Q X => wo ρ h (fun x h1 => ∃ kvs, dkOf h1 x = some kvs ∧ Q (.tup (kvs.map kvD)) h1) X
section
variable {X : Cx} {E : XK} {gz : Bool} {k : Nat} {o : Expr} {wo : WE} {apos cpos pos : Pos}
theorem dk_tyV {K : PySem.W.Frag} {H : Hp} {a : Addr} {vs : List (Key × V)} (hu : H a = some (.dK vs)) : tyV K "dict" (.ref a) H := .inr (.inr (.inl ⟨rfl, .inl ⟨_, hu⟩⟩))
theorem ae_tupIt {pn : Pos} (hm : X.mg "tuple" = none) (c : Cg gz X E k) (ho : AE X E o wo) (hg : Gl X "tuple" := by rfl)
    (hbase : attributeBase o "items" X.env (eval o X.env) = eval o X.env := by rfl)
    (hline : (apos.endLine == cpos.line) = true := by rfl)
    (hst : starEach [Expr.Call (.Attribute o "items" apos) [] [] cpos] X.env = (false, eval (.Call (.Attribute o "items" apos) [] [] cpos) X.env) :: starEach [] X.env := by rfl)
    (hpl : (backTo pos (starEach [] X.env)).any (·.1) = false := by rfl) :
    AE X E (.Call (.Name "tuple" pn) [.Call (.Attribute o "items" apos) [] [] cpos] [] pos) (wTupIt wo) := by
  have P1 := pe_bm0 (cpos := cpos) (apos := apos) PySem.F.plainAttrs_dict PySem.F.slot_dict_items PySem.F.type_dict_items (mt_itemsV (X := X)) ho.run hbase hline
  have P2 := pe_callTy (pos := pos) (p := pn) (cr_tupView c.calm) hg hm bb_tuple (pa_cons P1 pa_nil hst) (he := hst) (hpl := hpl)
  refine ⟨PE.imp P2 fun σ H Q ⟨F, ρ, h, S, R, q⟩ => ?_, fun ρ h Q Q' X X' hq hx q => ho.mo _ _ _ _ _ _ (fun x h1 ⟨kvs, e1, z⟩ => ⟨kvs, e1, hq _ _ z⟩) hx q⟩
  refine ⟨F, ρ, h, S, R, ho.mo _ _ _ _ _ _ (fun x h1 z => ?_) (fun _ _ z => z) q⟩
  intro F1 H1 v e1 S1 r
  obtain ⟨kvs, ea, z⟩ := z
  obtain ⟨a, vs, rfl, hu, rs⟩ := S1.dkOf r ea
  refine ⟨dk_tyV hu, a, vs, rfl, rfl, hu, fun p hp => ?_⟩
  have na : a ≠ p := by rintro rfl; rw [hu] at hp; cases hp
  refine ⟨p, a, vs, rfl, upd_same, by rw [upd_ne na]; exact hu, fun H' l ts sm hl nl hL hT => ?_⟩
  have sm1 : ∀ b o, H1 b = some o → H' b = some o := fun b o e => sm b o (by rw [upd_ne (by rintro rfl; rw [hp] at e; cases e)]; exact e)
  have hl1 : H1 l = none := by
    by_cases c : l = p
    · rw [c]; exact hp
    · rw [upd_ne c] at hl; exact hl
  obtain ⟨F2, x2, S2, g2, g3⟩ := S1.grow sm1 (fun b => true)
  have hn : ∀ t ∈ ts, H1 t = none := fun t ht => by
    obtain ⟨n1, n2⟩ := nl t ht
    by_cases c : t = p
    · rw [c]; exact hp
    · rw [upd_ne c] at n1; exact n1
  have rsT : ∀ (ts : List Addr) (kvs : List (Key × D)) (vs : List (Key × V)), (∀ t ∈ ts, H1 t = none) → RepK X.K F1 kvs vs → Paired (fun (t : Addr) (e : Key × V) => H' t = some (.tup [kV e.1, e.2])) ts vs → Reps X.K F2 (kvs.map kvD) (ts.map V.ref) := by
    intro ts
    induction ts with
    | nil => intro kvs vs _ r pr; cases pr; cases r; exact .nil
    | cons t ts ih =>
      intro kvs vs hn r pr
      cases pr with
      | cons p1 p2 =>
        cases r with
        | cons r1 r2 => exact .cons (.tup (.of ((g2 t (hn t (List.mem_cons_self ..)) rfl).trans p1)) (.cons (kD_rep _) (.cons (r1.ext x2) .nil))) (ih _ _ (fun w hw => hn w (List.mem_cons_of_mem _ hw)) r2 p2)
  exact z F2 H' _ (e1.trans x2) S2 (.tup (.of ((g2 l hl1 rfl).trans hL)) (rsT ts kvs vs hn rs hT))
end
end DL
namespace DL
open PySem PySem.Spec L2 C8
/-! ### what a class gives, bundled -/
section
variable (P : Program) (w : World) (K : PySem.W.Frag) (mg : Str → Option Value) (base : Heap)
structure MakC (x : Str) (C : Addr) (k : Nat) (S : FSpec) : Prop where
  ex : ∃ fI, Mk K C fI ∧ FnRD P w K mg base k fI S
  mo : MoF S
  at_ : mg x = some (.ref C)
structure PrpC (C : Addr) (f : Str) (k : Nat) (S : FSpec) : Prop where
  cl : Cls K C
  ex : ∃ pa g fd ps, PropOf K C f pa g ∧ FnG false P w K mg base k g fd ps S ∧ Binds K fd ps []
structure MetC (C : Addr) (f : Str) (k : Nat) (S : FSpec) : Prop where
  cl : Cls K C
  ex : ∃ g, Meth K C f g ∧ FnRD P w K mg base k g S
  mo : MoF S
structure CalC (C : Addr) (k : Nat) (S : FSpec) : Prop where
  ex : ∃ g, StX.CallO K C g ∧ FnRD P w K mg base k g S
  mo : MoF S
structure Op2C (C : Addr) (op : Operator) (k : Nat) (S : FSpec) : Prop where
  sf : PySem.W.selfFirst K C = true
  ex : ∃ g, PySem.W.findIn K (.ref C) (PySem.dunder op.info.2) = some (some (.ref g)) ∧ PySem.W.isFn K (.ref g) = true ∧ FnRD P w K mg base k g S
  mo : MoF S
end
section
variable {X : Cx} {E : XK} {gz : Bool} {k j : Nat} {o a b e fe : Expr} {es : List Expr} {wo wa wb we : WE} {wl : WA} {pos apos p sp_ : Pos} {f x m : Str} {C : Addr} {S : FSpec} {op : Operator}
theorem ag_make (c : Cg gz X E k) (M : MakC X.prog X.w X.K X.mg X.base x C j S) (hj : j + 1 ≤ k) (ha : AA X E (e :: es) wl)
    (hg : Gl X x := by rfl) (hdb : (x == ("__debug__" : Str)) = false := by decide) (he : starEach (e :: es) X.env = (false, eval e X.env) :: starEach es X.env := by rfl)
    (hpl : (backTo pos (starEach es X.env)).any (·.1) = false := by rfl) : AE X E (.Call (.Name x p) (e :: es) [] pos) (wMake C S wl) := by
  obtain ⟨fI, h1, h2⟩ := M.ex
  exact ae_make c h1 h2 M.mo hj M.at_ ha hg hdb he hpl
theorem ag_make0 (c : Cg gz X E k) (M : MakC X.prog X.w X.K X.mg X.base x C j S) (hj : j + 1 ≤ k)
    (hg : Gl X x := by rfl) (hdb : (x == ("__debug__" : Str)) = false := by decide) : AE X E (.Call (.Name x p) [] [] pos) (wMake C S wNil) := by
  obtain ⟨fI, h1, h2⟩ := M.ex
  exact ae_make0 c h1 h2 M.mo hj M.at_ hg hdb
theorem ag_makeS (c : Cg gz X E k) (M : MakC X.prog X.w X.K X.mg X.base x C j S) (hj : j + 1 ≤ k) (he : AE X E e we)
    (hg : Gl X x := by rfl) (hdb : (x == ("__debug__" : Str)) = false := by decide) (hst : starEach [.Starred e sp_] X.env = [(true, eval e X.env)] := by rfl) : AE X E (.Call (.Name x p) [.Starred e sp_] [] pos) (wMakeS C S we) := by
  obtain ⟨fI, h1, h2⟩ := M.ex
  exact ae_makeS c h1 h2 M.mo hj M.at_ he hg hdb hst
theorem ag_prop (c : Cg gz X E k) (R : PrpC X.prog X.w X.K X.mg X.base C f j S) (hj : j + 1 ≤ k) (ho : AE X E o wo)
    (hab : attributeBase o f X.env (eval o X.env) = eval o X.env := by rfl) : AE X E (.Attribute o f pos) (wProp C S wo) := by
  obtain ⟨pa, g, fd, ps, h1, h2, h3⟩ := R.ex
  exact ae_prop c R.cl h1 h2 h3 hj ho hab
theorem ag_met {pl : Sem Bool} (c : Cg gz X E k) (R : MetC X.prog X.w X.K X.mg X.base C m j S) (hj : j ≤ k) (ho : AE X E o wo) (ha : AA X E (e :: es) wl)
    (hst : starEach (e :: es) X.env = (false, eval e X.env) :: starEach es X.env := by rfl) (hpl : (backTo pos (starEach es X.env)).any (·.1) = false := by rfl)
    (ht : eval (.Call (.Attribute o m apos) (e :: es) [] pos) X.env = (do let ov ← eval o X.env; standAt apos.atName; let (f, first) ← holding [ov] (getMethod ov m pl); callWith pos f first (backTo pos (starEach (e :: es) X.env)) (backToKw pos (keywordEach [] X.env))) := by rfl) : AE X E (.Call (.Attribute o m apos) (e :: es) [] pos) (wMet C m S wo wl) := by
  obtain ⟨g, h1, h2⟩ := R.ex
  exact ae_met (pl := pl) c R.cl h1 h2 R.mo hj ho ha hst hpl ht
def wCalO (C : Addr) (S : FSpec) (wo : WE) (wl : WA) : WE := wCallO C S (fun ρ h Q X => wo ρ h (fun y h1 => (∃ fs, insOf h1 y = some (C, fs)) ∧ Q y h1) X) wl
theorem ag_callO (c : Cg gz X E k) (R : CalC X.prog X.w X.K X.mg X.base C j S) (hj : j ≤ k) (hf : AE X E fe wo) (ha : AA X E (e :: es) wl)
    (ht : eval (.Call fe (e :: es) [] pos) X.env = (do callWith pos (← eval fe X.env) [] (backTo pos (starEach (e :: es) X.env)) (backToKw pos (keywordEach [] X.env))) := by rfl)
    (he : starEach (e :: es) X.env = (false, eval e X.env) :: starEach es X.env := by rfl) (hpl : (backTo pos (starEach es X.env)).any (·.1) = false := by rfl) : AE X E (.Call fe (e :: es) [] pos) (wCalO C S wo wl) := by
  obtain ⟨g, h1, h2⟩ := R.ex
  exact ae_callO c h1 h2 R.mo hj hf ha (fun _ _ _ _ => trivial) ht he hpl
theorem ag_own2 (c : Cg gz X E k) (R : Op2C X.prog X.w X.K X.mg X.base C op j S) (hj : j ≤ k) (ha : AE X E a wa) (hb : AE X E b wb) : AE X E (.BinOp a op b pos) (wOp (dOwn2 C S) wa wb) := by
  obtain ⟨g, h1, h2, h3⟩ := R.ex
  exact ae_own2 c R.sf h1 h2 h3 R.mo hj ha hb
end
/-! ### how the readings unfold -/
section
variable {ρ : EnvD} {h : AH} {Q : KD} {X : KX} {D0 : EndsD} {a b wo wv : WE} {wl wk : WA} {C : Addr} {S : FSpec} {f m : Str} {fs : List (Str × D)} {x y : D} {mm : Bool}
theorem u_prop : wProp C S wo ρ h Q X = wo ρ h (fun x h1 => isI C x h1 ∧ S [x] h1 Q (fun _ _ => False)) X := rfl
theorem u_fld : wFld C f wo ρ h Q X = wo ρ h (fun x h1 => ∃ fs d, insOf h1 x = some (C, fs) ∧ fs.lookup f = some d ∧ Q d h1) X := rfl
theorem u_setF : wSetF C f wo wv D0 ρ h = wv ρ h (fun z h1 => wo ρ h1 (fun x h2 => ∃ a fs, x = .ref a ∧ h2 a = some (.ins C fs) ∧ fs.length < 1000 ∧ D0.nx ρ (up h2 a (.ins C (putFD f z fs)))) D0.ex) D0.ex := rfl
theorem u_make : wMake C S wl ρ h Q X = wl ρ h (fun ds h1 => ∀ a, h1 a = none → S (.ref a :: ds) (up h1 a (.ins C [])) (fun v h2 => v = .non ∧ ∃ fs, h2 a = some (.ins C fs) ∧ Q (.ob C fs) (rm h2 a)) X) X := rfl
theorem u_makeS : wMakeS C S wo ρ h Q X = wo ρ h (fun y h1 => ∃ ds, seqOf h1 y = some ds ∧ ∀ a, h1 a = none → S (.ref a :: ds) (up h1 a (.ins C [])) (fun v h2 => v = .non ∧ ∃ fs, h2 a = some (.ins C fs) ∧ Q (.ob C fs) (rm h2 a)) X) X := rfl
theorem u_met : wMet C m S wo wl ρ h Q X = wo ρ h (fun x h1 => ∃ fs, insOf h1 x = some (C, fs) ∧ fs.lookup m = none ∧ wl ρ h1 (fun ds h2 => S (x :: ds) h2 Q X) X) X := rfl
theorem u_calO : wCalO C S wo wl ρ h Q X = wo ρ h (fun y h1 => (∃ fs, insOf h1 y = some (C, fs)) ∧ wl ρ h1 (fun ds h2 => (∃ fs, insOf h2 y = some (C, fs)) ∧ S (y :: ds) h2 Q X) X) X := rfl
theorem u_own2 : dOwn2 C S x y h Q = (isI C x h ∧ isI C y h ∧ S [x, y] h Q (fun _ _ => False)) := rfl
theorem u_orT : wOrT a b ρ h Q X = a ρ h (fun x h1 => ∃ k, truD h1 x = some k ∧ if k = true then Q x h1 else b ρ h1 Q X) X := rfl
theorem u_tupIt : wTupIt wo ρ h Q X = wo ρ h (fun x h1 => ∃ kvs, dkOf h1 x = some kvs ∧ Q (.tup (kvs.map kvD)) h1) X := rfl
theorem u_dnew : wDnew ρ h Q X = ∀ p, h p = none → Q (.ref p) (up h p (.dK [])) := rfl
theorem u_dput {wi : WE} : wDput wo wi wv D0 ρ h = wv ρ h (fun z h1 => wo ρ h1 (fun x h2 => wi ρ h2 (fun y h3 => ∃ a kvs k, x = .ref a ∧ h3 a = some (.dK kvs) ∧ keyD y = some k ∧ kvs.length < sizeLine ∧ D0.nx ρ (up h3 a (.dK (putD kvs k z)))) D0.ex) D0.ex) D0.ex := rfl
theorem u_get2 {wi wx : WE} : wGet2 wo wi wx ρ h Q X = wo ρ h (fun x h1 => (dkOf h1 x).isSome = true ∧ wi ρ h1 (fun y h2 => wx ρ h2 (fun z h3 => ∃ kvs k, dkOf h3 x = some kvs ∧ keyD y = some k ∧ Q ((valD kvs k).getD z) h3) X) X) X := rfl
theorem u_dget {wi : WE} : wDGet wo wi ρ h Q X = wo ρ h (fun x h1 => wi ρ h1 (fun y h2 => ∃ kvs k d, dkOf h2 x = some kvs ∧ keyD y = some k ∧ valD kvs k = some d ∧ Q d h2) X) X := rfl
theorem u_dc {m : Bool} {wi : WI} {g : WG} {tt : WT} {tk tv : WE} {vs : List Nat} : wDc m wi g tt tk tv vs ρ h Q X = wi ρ h (fun xs st h1 => ∀ p, h1 p = none → dcD st g tt tk tv vs ρ p xs (up h1 p (.dK [])) (endK m p Q)) X := rfl
theorem u_maxDd : wMaxDd wl wk ρ h Q X = wl ρ h (fun xs h1 => wk ρ h1 (fun zs h2 => ∃ (x z : D) (kvs : List (Key × D)) (ks : List Int), xs = [x] ∧ zs = [z] ∧ dkOf h2 x = some kvs ∧ kvs.map (·.1) = ks.map Sum.inl ∧ (ks = [] → Q z h2) ∧ ∀ m, m ∈ ks → (∀ y ∈ ks, y ≤ m) → Q (.int m) h2) X) X := rfl
end
end DL
namespace DL
open PySem PySem.Spec L2 C8
/-! ### lists of pairs of ints as dicts and ledgers: plain theory -/
abbrev Prs := List (Int × Int)
def getI (es : Prs) (k : Int) : Int := ((es.find? fun e => decide (e.1 = k)).map (·.2)).getD 0
def hasI (es : Prs) (k : Int) : Bool := es.any fun e => decide (e.1 = k)
def putI (es : Prs) (k v : Int) : Prs := if hasI es k then es.map (fun e => if e.1 = k then (e.1, v) else e) else es ++ [(k, v)]
def amt (es : Prs) (k : Int) : Int := (es.map fun e => if e.1 = k then e.2 else 0).sum
theorem hasI_iff {es : Prs} {k : Int} : hasI es k = true ↔ ∃ v, (k, v) ∈ es := by
  unfold hasI
  rw [List.any_eq_true]
  constructor
  · rintro ⟨e, h, c⟩
    have : e.1 = k := by simpa using c
    exact ⟨e.2, by rw [← this]; exact h⟩
  · rintro ⟨v, h⟩
    exact ⟨_, h, by simp⟩
theorem hasI_keys {es : Prs} {k : Int} : hasI es k = true ↔ k ∈ es.map (·.1) := by
  rw [hasI_iff, List.mem_map]
  exact ⟨fun ⟨v, h⟩ => ⟨_, h, rfl⟩, fun ⟨e, h, c⟩ => ⟨e.2, by rw [← c]; exact h⟩⟩
theorem keys_put {es : Prs} {k v : Int} : (putI es k v).map (·.1) = if hasI es k then es.map (·.1) else es.map (·.1) ++ [k] := by
  unfold putI
  split
  · rw [List.map_map]
    apply List.map_congr_left
    intro e _
    show (if e.1 = k then (e.1, v) else e).1 = e.1
    split <;> rfl
  · simp
theorem nodup_put {es : Prs} {k v : Int} (h : (es.map (·.1)).Nodup) : ((putI es k v).map (·.1)).Nodup := by
  rw [keys_put]
  split
  · exact h
  · rename_i c
    rw [List.nodup_append]
    refine ⟨h, by simp, fun a ha b hb e => ?_⟩
    have : b = k := by simpa using hb
    subst this
    subst e
    exact c (hasI_keys.mpr ha)
theorem len_put {es : Prs} {k v : Int} : (putI es k v).length ≤ es.length + 1 := by
  unfold putI; split <;> simp
theorem getI_cons {e : Int × Int} {es : Prs} {k : Int} : getI (e :: es) k = if e.1 = k then e.2 else getI es k := by
  unfold getI
  rw [List.find?_cons]
  by_cases c : e.1 = k <;> simp [c]
theorem getI_no {es : Prs} {k : Int} (h : hasI es k = false) : getI es k = 0 := by
  induction es with
  | nil => rfl
  | cons e es ih =>
    have h : (decide (e.1 = k) || hasI es k) = false := h
    rw [Bool.or_eq_false_iff] at h
    rw [getI_cons, if_neg (by simpa using h.1), ih h.2]
theorem getI_mem {es : Prs} (nd : (es.map (·.1)).Nodup) {k v : Int} (h : (k, v) ∈ es) : getI es k = v := by
  induction es with
  | nil => cases h
  | cons e es ih =>
    rw [getI_cons]
    rw [List.map_cons, List.nodup_cons] at nd
    rcases List.mem_cons.mp h with rfl | h
    · simp
    · have : e.1 ≠ k := fun c => nd.1 (by rw [c]; exact List.mem_map.mpr ⟨_, h, rfl⟩)
      rw [if_neg this]; exact ih nd.2 h
theorem getI_append {es fs : Prs} {k : Int} : getI (es ++ fs) k = if hasI es k then getI es k else getI fs k := by
  induction es with
  | nil => simp [hasI]
  | cons e es ih =>
    rw [List.cons_append, getI_cons, getI_cons, ih]
    have : hasI (e :: es) k = (decide (e.1 = k) || hasI es k) := rfl
    rw [this]
    by_cases c : e.1 = k <;> simp [c]
theorem getI_put {es : Prs} {k v j : Int} : getI (putI es k v) j = if j = k then v else getI es j := by
  unfold putI
  split
  · rename_i c
    by_cases e : j = k
    · subst e
      rw [if_pos rfl]
      induction es with
      | nil => cases c
      | cons e es ih =>
        rw [List.map_cons, getI_cons]
        by_cases d : e.1 = j
        · simp [d]
        · have c : (decide (e.1 = j) || hasI es j) = true := c
          rw [if_neg d, if_neg d]
          exact ih (by simpa [d] using c)
    · rw [if_neg e]
      clear c
      induction es with
      | nil => rfl
      | cons x es ih =>
        rw [List.map_cons, getI_cons, getI_cons, ih]
        by_cases d : x.1 = k
        · rw [if_pos d]
          show (if x.1 = j then v else getI es j) = _
          rw [if_neg (fun z => e (z.symm.trans d)), if_neg (fun z => e (z.symm.trans d))]
        · rw [if_neg d]
  · rename_i c
    rw [getI_append, getI_cons]
    by_cases e : j = k
    · subst e; rw [if_pos rfl, if_neg c, if_pos rfl]
    · rw [if_neg e, if_neg (show ¬ (k, v).1 = j from fun z => e z.symm)]
      by_cases d : hasI es j = true
      · rw [if_pos d]
      · rw [if_neg d]
        exact (getI_no (es := es) (by simpa using d)).symm
theorem amt_cons {e : Int × Int} {es : Prs} {k : Int} : amt (e :: es) k = (if e.1 = k then e.2 else 0) + amt es k := by
  unfold amt; rw [List.map_cons, List.sum_cons]
theorem amt_append {es fs : Prs} {k : Int} : amt (es ++ fs) k = amt es k + amt fs k := by
  unfold amt; rw [List.map_append, List.sum_append]
theorem amt_nil {k : Int} : amt [] k = 0 := rfl
theorem amt_get {es : Prs} (nd : (es.map (·.1)).Nodup) {k : Int} : amt es k = getI es k := by
  induction es with
  | nil => rfl
  | cons e es ih =>
    rw [List.map_cons, List.nodup_cons] at nd
    rw [amt_cons, getI_cons, ih nd.2]
    split
    · rename_i c
      rw [getI_no, Int.add_zero]
      cases h : hasI es k with
      | false => rfl
      | true => exact absurd (hasI_keys.mp h) (by rw [← c]; exact nd.1)
    · exact Int.zero_add _
/-- es is the ledger of the amounts A -/
structure Led (es : Prs) (A : Int → Int) : Prop where
  pw : es.Pairwise (fun a b => a.1 < b.1)
  mem : ∀ k v, (k, v) ∈ es ↔ (v = A k ∧ v ≠ 0)
theorem pw_nodup {es : Prs} (h : es.Pairwise (fun a b => a.1 < b.1)) : (es.map (·.1)).Nodup := by
  rw [List.nodup_iff_pairwise_ne, List.pairwise_map]
  exact h.imp fun h => by omega
theorem pw_ext : ∀ {es fs : Prs}, es.Pairwise (fun a b => a.1 < b.1) → fs.Pairwise (fun a b => a.1 < b.1) → (∀ e, e ∈ es ↔ e ∈ fs) → es = fs
  | [], [], _, _, _ => rfl
  | [], f :: fs, _, _, h => absurd ((h f).mpr (List.mem_cons_self ..)) (by simp)
  | e :: es, [], _, _, h => absurd ((h e).mp (List.mem_cons_self ..)) (by simp)
  | e :: es, f :: fs, h1, h2, h => by
    rw [List.pairwise_cons] at h1 h2
    have ef : e = f := by
      rcases List.mem_cons.mp ((h e).mp (List.mem_cons_self ..)) with z | z
      · exact z
      · rcases List.mem_cons.mp ((h f).mpr (List.mem_cons_self ..)) with y | y
        · exact y.symm
        · have a1 := h2.1 e z
          have a2 := h1.1 f y
          omega
    subst ef
    rw [pw_ext h1.2 h2.2 fun x => ?_]
    have hx := h x
    rw [List.mem_cons, List.mem_cons] at hx
    constructor
    · intro m
      rcases hx.mp (.inr m) with rfl | z
      · exact absurd (h1.1 _ m) (by omega)
      · exact z
    · intro m
      rcases hx.mpr (.inr m) with rfl | z
      · exact absurd (h2.1 _ m) (by omega)
      · exact z
theorem Led.unique {es fs : Prs} {A : Int → Int} (h1 : Led es A) (h2 : Led fs A) : es = fs :=
  pw_ext h1.pw h2.pw fun ⟨k, v⟩ => by rw [h1.mem, h2.mem]
/-- a list that stands as a ledger does -/
def Std (es : Prs) : Prop := es.Pairwise (fun a b => a.1 < b.1) ∧ ∀ e ∈ es, e.2 ≠ 0
theorem Led.std {es : Prs} {A : Int → Int} (h : Led es A) : Std es := ⟨h.pw, fun e he => ((h.mem e.1 e.2).mp he).2⟩
theorem Std.led {es : Prs} (h : Std es) : Led es (amt es) := by
  have nd := pw_nodup h.1
  refine ⟨h.1, fun k v => ?_⟩
  rw [amt_get nd]
  constructor
  · intro m; exact ⟨(getI_mem nd m).symm, h.2 _ m⟩
  · rintro ⟨rfl, n⟩
    cases c : hasI es k with
    | false => exact absurd (getI_no c) n
    | true =>
      obtain ⟨v, m⟩ := hasI_iff.mp c
      rw [getI_mem nd m]; exact m
theorem Led.eqA {es : Prs} {A : Int → Int} (h : Led es A) : amt es = A := by
  funext k
  have nd := pw_nodup h.pw
  rw [amt_get nd]
  by_cases z : A k = 0
  · rw [z]
    refine getI_no ?_
    cases c : hasI es k with
    | false => rfl
    | true =>
      obtain ⟨v, m⟩ := hasI_iff.mp c
      obtain ⟨e1, e2⟩ := (h.mem _ _).mp m
      exact absurd (e1.trans z) e2
  · exact getI_mem nd ((h.mem _ _).mpr ⟨rfl, z⟩)
theorem Led.of_amt {es : Prs} {A B : Int → Int} (h : Led es A) (e : ∀ k, A k = B k) : Led es B := by
  have : A = B := funext e
  subst this; exact h
/-- the keys in order, those that count -/
def keyed (A : Int → Int) (ys : List Int) : Prs := ys.filterMap fun k => if A k ≠ 0 then some (k, A k) else none
theorem keyed_led {A : Int → Int} {ys : List Int} (pw : ys.Pairwise (· ≤ ·)) (nd : ys.Nodup) (all : ∀ k, A k ≠ 0 → k ∈ ys) : Led (keyed A ys) A := by
  have lt : ys.Pairwise (· < ·) := by
    have := List.Pairwise.and pw (List.nodup_iff_pairwise_ne.mp nd)
    exact this.imp fun ⟨a, b⟩ => by omega
  refine ⟨?_, fun k v => ?_⟩
  · unfold keyed
    rw [List.pairwise_filterMap]
    refine lt.imp ?_
    intro a b h x hx y hy
    have hx : (if A a ≠ 0 then some (a, A a) else none) = some x := hx
    have hy : (if A b ≠ 0 then some (b, A b) else none) = some y := hy
    split at hx
    · split at hy
      · cases hx; cases hy; exact h
      · cases hy
    · cases hx
  · unfold keyed
    rw [List.mem_filterMap]
    constructor
    · rintro ⟨a, m, e⟩
      split at e
      · cases e; rename_i c; exact ⟨rfl, c⟩
      · cases e
    · rintro ⟨rfl, n⟩
      exact ⟨k, all k n, by rw [if_pos n]⟩
theorem keyed_len {A : Int → Int} {ys : List Int} : (keyed A ys).length ≤ ys.length := List.length_filterMap_le ..
/-! ### the same as data -/
theorem valD_toK (es : Prs) (k : Int) : valD (toK es) (Sum.inl k) = (es.find? fun e => decide (e.1 = k)).map fun e => D.int e.2 := by
  unfold valD toK
  rw [List.find?_map]
  have : ((fun kv : Key × D => decide (kv.1 = Sum.inl k)) ∘ fun e : Int × Int => ((Sum.inl e.1 : Key), D.int e.2)) = fun e => decide (e.1 = k) := by
    funext e
    show decide ((Sum.inl e.1 : Key) = Sum.inl k) = decide (e.1 = k)
    simp
  rw [this, Option.map_map]
  rfl
theorem val_getD (es : Prs) (k : Int) : (valD (toK es) (Sum.inl k)).getD (.int 0) = .int (getI es k) := by
  rw [valD_toK]
  unfold getI
  cases es.find? fun e => decide (e.1 = k) <;> rfl
theorem val_some {es : Prs} {k : Int} (h : k ∈ es.map (·.1)) : valD (toK es) (Sum.inl k) = some (.int (getI es k)) := by
  rw [valD_toK]
  unfold getI
  cases e : es.find? fun e => decide (e.1 = k) with
  | some x => rfl
  | none =>
    obtain ⟨x, hx, rfl⟩ := List.mem_map.mp h
    have := List.find?_eq_none.mp e x hx
    simp at this
theorem putD_toK (es : Prs) (k v : Int) : putD (toK es) (Sum.inl k) (.int v) = toK (putI es k v) := by
  unfold putD putI
  have c : ((toK es).any fun kv => decide (kv.1 = (Sum.inl k : Key))) = hasI es k := by
    unfold toK hasI
    rw [List.any_map]
    congr 1
    funext e
    show decide ((Sum.inl e.1 : Key) = Sum.inl k) = decide (e.1 = k)
    simp
  rw [c]
  split
  · unfold toK
    rw [List.map_map, List.map_map]
    apply List.map_congr_left
    intro e _
    show (if (Sum.inl e.1 : Key) = Sum.inl k then ((Sum.inl e.1 : Key), D.int v) else (Sum.inl e.1, D.int e.2)) = ((Sum.inl (if e.1 = k then (e.1, v) else e).1 : Key), D.int (if e.1 = k then (e.1, v) else e).2)
    by_cases z : e.1 = k
    · rw [if_pos (by rw [z]), if_pos z]
    · rw [if_neg (by intro y; exact z (Sum.inl.inj y)), if_neg z]
  · simp [toK]
theorem toK_keys (es : Prs) : (toK es).map (·.1) = (es.map (·.1)).map Sum.inl := by
  unfold toK; rw [List.map_map, List.map_map]; rfl
theorem toK_kv (es : Prs) : (toK es).map kvD = es.map pairD := by
  unfold toK; rw [List.map_map]; rfl
theorem toK_len (es : Prs) : (toK es).length = es.length := by simp [toK]
/-- a ledger as data -/
def ledD (C : Addr) (es : Prs) : D := .ob C [("amounts", .dK (toK es))]
theorem ledD_isI {C : Addr} {es : Prs} {h : AH} : isI C (ledD C es) h := ⟨_, rfl⟩
/-- the sum over a ledger at a capacity -/
def lenAt (es : Prs) (c : Int) : Int := (es.map fun e => e.2 * (e.1 % c)).sum
end DL
namespace DL
open PySem PySem.Spec L2 C8
/-! ### dict comprehensions over what does not change -/
def dstep (f : D → Option (Key × D)) (acc : List (Key × D)) (x : D) : List (Key × D) := match f x with
  | some e => putD acc e.1 e.2
  | none => acc
theorem dstep_len {f : D → Option (Key × D)} {acc : List (Key × D)} {x : D} : (dstep f acc x).length ≤ acc.length + 1 := by
  unfold dstep
  split
  · unfold putD; split <;> simp
  · omega
theorem dc_pure {st : AH → Prop} {g : WG} {tt : WT} {tk tv : WE} {vs : List Nat} {ρ : EnvD} {p : Addr} {xs : List D} {h : AH} {Q : AH → Prop} (f : D → Option (Key × D)) (hst : ∀ acc, st (up h p (.dK acc))) (hl : xs.length ≤ sizeLine)
    (hs : ∀ x acc (K : AH → Prop), x ∈ xs → acc.length < sizeLine → K (up h p (.dK (dstep f acc x))) → g x (wipeD ρ vs) (up h p (.dK acc)) (fun ρ2 h2 => tt ρ2 h2 (fun b h3 => if b = true then tk ρ2 h3 (fun y h4 => tv ρ2 h4 (fun z h5 => ∃ kvs k, keyD y = some k ∧ h5 p = some (.dK kvs) ∧ kvs.length < sizeLine ∧ K (up h5 p (.dK (putD kvs k z)))) (fun _ _ => False)) (fun _ _ => False) else K h3) (fun _ _ => False)) (fun _ _ => False))
    (hd : Q (up h p (.dK (xs.foldl (dstep f) [])))) : dcD st g tt tk tv vs ρ p xs (up h p (.dK [])) Q := by
  suffices H : ∀ (ys : List D) (acc : List (Key × D)), (∀ y ∈ ys, y ∈ xs) → acc.length + ys.length ≤ sizeLine → Q (up h p (.dK (ys.foldl (dstep f) acc))) → dcD st g tt tk tv vs ρ p ys (up h p (.dK acc)) Q from H xs [] (fun _ z => z) (by simpa using hl) hd
  intro ys
  induction ys with
  | nil => intro acc _ _ q; exact ⟨hst _, q⟩
  | cons y ys ih =>
    intro acc hm hl2 q
    rw [List.length_cons] at hl2
    refine ⟨hst _, hs y acc (fun h => dcD st g tt tk tv vs ρ p ys h Q) (hm y (List.mem_cons_self ..)) (by omega) (ih _ (fun z hz => hm z (List.mem_cons_of_mem _ hz)) ?_ q)⟩
    have := dstep_len (f := f) (acc := acc) (x := y)
    omega
/-- the dict of the keys that count -/
def pick0 (A : Int → Int) (x : D) : Option (Key × D) := match x with
  | .int k => if A k ≠ 0 then some (Sum.inl k, .int (A k)) else none
  | _ => none
theorem put_new {es : Prs} {k v : Int} (h : hasI es k = false) : putI es k v = es ++ [(k, v)] := by
  unfold putI; rw [h]; rfl
theorem fold_keyed (A : Int → Int) : ∀ (ys : List Int) (es : Prs), ys.Nodup → (∀ y ∈ ys, hasI es y = false) → (ys.map D.int).foldl (dstep (pick0 A)) (toK es) = toK (es ++ keyed A ys)
  | [], es, _, _ => by simp [keyed]
  | y :: ys, es, nd, hn => by
    rw [List.nodup_cons] at nd
    rw [List.map_cons, List.foldl_cons]
    by_cases c : A y ≠ 0
    · have e1 : dstep (pick0 A) (toK es) (.int y) = toK (es ++ [(y, A y)]) := by
        unfold dstep pick0
        simp only [if_pos c]
        rw [putD_toK, put_new (hn y (List.mem_cons_self ..))]
      have e2 : keyed A (y :: ys) = (y, A y) :: keyed A ys := by
        unfold keyed; rw [List.filterMap_cons, if_pos c]
      rw [e1, fold_keyed A ys _ nd.2 (fun z hz => ?_), e2]
      · simp
      · have h1 := hn z (List.mem_cons_of_mem _ hz)
        have h2 : y ≠ z := fun e => nd.1 (by rw [e]; exact hz)
        show (es ++ [(y, A y)]).any _ = false
        rw [List.any_append]
        have h1 : es.any (fun e => decide (e.1 = z)) = false := h1
        rw [h1]
        simp [h2]
    · have e1 : dstep (pick0 A) (toK es) (.int y) = toK es := by
        unfold dstep pick0
        simp only [if_neg c]
      have e2 : keyed A (y :: ys) = keyed A ys := by
        unfold keyed; rw [List.filterMap_cons, if_neg c]
      rw [e1, fold_keyed A ys _ nd.2 (fun z hz => hn z (List.mem_cons_of_mem _ hz)), e2]
theorem endKF {p : Addr} {h : AH} {kvs : List (Key × D)} {Q : KD} (hp : h p = none) (q : Q (.dK kvs) h) : endK false p Q (up h p (.dK kvs)) := ⟨kvs, up_same, by rw [if_neg (by decide), rm_up, rm_none hp]; exact q⟩
theorem ix_p0 {r : Int × Int} {h : AH} {Q : KD} : dIx (pairD r) (.int 0) h Q = Q (.int r.1) h := u_ixTd at0
theorem ix_p1 {r : Int × Int} {h : AH} {Q : KD} : dIx (pairD r) (.int 1) h Q = Q (.int r.2) h := u_ixTd at1
/-! ### the small defs -/
section
variable {ρ : EnvD} {h : AH} {Q : KD} {X : KX} {D0 : EndsD} {x : D} {t : String}
theorem tyD_in (e : tyD h x = some t) : t = "NoneType" ∨ t = "bool" ∨ t = "int" ∨ t = "str" ∨ t = "tuple" ∨ t = "list" ∨ t = "dict" := by
  unfold tyD at e
  split at e <;> first | (cases e; simp) | cases e
end
def S_isInt : FSpec := fun ds h Q _ => ∃ x t, ds = [x] ∧ tyD h x = some t ∧ Q (.bl (decide (t = "int"))) h
def wr_isInt : WS := (wRet (wAndV (wB dIsi (wCons (wVar 0) (wCons (wC (.ty "int")) wNil))) (wNotV (wB dIsi (wCons (wVar 0) (wCons (wC (.ty "bool")) wNil))))))
theorem pr_isInt : ∀ ds h Q X, S_isInt ds h Q X → wr_isInt (endsD Q X) (startD 1 ds) h := by
  rintro ds h Q X ⟨x, t, rfl, e, q⟩
  show wr_isInt (endsD Q X) [some x] h
  simp only [wr_isInt, u_asg, u_gN, u_ret, u_retN, u_skip, u_expr, u_ifs, u_c, u_op, u_neg, u_test, u_and, u_or, u_not, u_if, u_nil, u_cons, u_tup, u_lst, u_callP, u_call, u_b, u_chain, u_andV, u_addI, u_subI, u_mulI, u_divI, u_modI, u_powI, u_cmpI, u_eqI, u_eqS, u_eqB, u_abs, u_intI, u_intB, u_newT, u_newF, u_isN, u_notN, wVar, List.set_cons_zero, List.set_cons_succ, List.getElem?_cons_zero, List.getElem?_cons_succ, List.length_cons, List.length_nil, u_lc, u_for, u_r1, u_r2, u_r3, u_num, u_notV, u_yes, u_w0, u_w1]
  rcases tyD_in e with rfl | rfl | rfl | rfl | rfl | rfl | rfl
  · exact ⟨x, _, "int", false, rfl, e, rfl, fin_of q⟩
  · exact ⟨x, _, "int", true, rfl, e, rfl, x, _, "bool", true, rfl, e, rfl, fin_of q⟩
  · exact ⟨x, _, "int", true, rfl, e, rfl, x, _, "bool", false, rfl, e, rfl, fin_of q⟩
  · exact ⟨x, _, "int", false, rfl, e, rfl, fin_of q⟩
  · exact ⟨x, _, "int", false, rfl, e, rfl, fin_of q⟩
  · exact ⟨x, _, "int", false, rfl, e, rfl, fin_of q⟩
  · exact ⟨x, _, "int", false, rfl, e, rfl, fin_of q⟩
theorem len_isInt : ∀ ds h Q X, S_isInt ds h Q X → ds.length = 1 := fun _ _ _ _ ⟨_, _, e, _⟩ => by rw [e]; rfl
theorem mo_isInt : MoF S_isInt := fun _ _ _ _ _ _ hq _ ⟨a, b, e, o, q⟩ => ⟨a, b, e, o, hq _ _ q⟩
theorem ty_int {i : Int} {h : AH} : tyD h (.int i) = some "int" := rfl
def btw (x : D) (lo hi : Int) : Bool := match x with
  | .int i => decide (lo ≤ i) && decide (i ≤ hi)
  | _ => false
def S_isBtw : FSpec := fun ds h Q _ => ∃ x t lo hi, ds = [x, .int lo, .int hi] ∧ tyD h x = some t ∧ Q (.bl (btw x lo hi)) h
def wr_isBtw : WS := (wRet (wAndV (wCallP S_isInt 1 (fun ds _ => ds) (wCons (wVar 0) wNil)) (wChain (dCmpI fun i j => decide (i ≤ j)) (dCmpI fun i j => decide (i ≤ j)) (wVar 1) (wVar 0) (wVar 2))))
theorem ty_isint {h : AH} {x : D} (e : tyD h x = some "int") : ∃ i, x = .int i := by
  cases x with
  | int i => exact ⟨i, rfl⟩
  | ref a =>
    cases ea : h a with
    | none => simp [tyD, cur, ea] at e
    | some o => cases o <;> simp [tyD, cur, ea] at e
  | _ => simp [tyD, cur] at e
theorem ty_noint {h : AH} {x : D} {t : String} (e : tyD h x = some t) (n : t ≠ "int") {lo hi : Int} : btw x lo hi = false := by
  cases x with
  | int i => exact absurd (Option.some.inj e).symm n
  | _ => rfl
theorem pr_isBtw : ∀ ds h Q X, S_isBtw ds h Q X → wr_isBtw (endsD Q X) (startD 3 ds) h := by
  rintro ds h Q X ⟨x, t, lo, hi, rfl, e, q⟩
  show wr_isBtw (endsD Q X) [some x, some (.int lo), some (.int hi)] h
  simp only [wr_isBtw, u_asg, u_gN, u_ret, u_retN, u_skip, u_expr, u_ifs, u_c, u_op, u_neg, u_test, u_and, u_or, u_not, u_if, u_nil, u_cons, u_tup, u_lst, u_callP, u_call, u_b, u_chain, u_andV, u_addI, u_subI, u_mulI, u_divI, u_modI, u_powI, u_cmpI, u_eqI, u_eqS, u_eqB, u_abs, u_intI, u_intB, u_newT, u_newF, u_isN, u_notN, wVar, List.set_cons_zero, List.set_cons_succ, List.getElem?_cons_zero, List.getElem?_cons_succ, List.length_cons, List.length_nil, u_lc, u_for, u_r1, u_r2, u_r3, u_num, u_notV, u_yes, u_w0, u_w1]
  refine ⟨trivial, x, t, rfl, e, ?_⟩
  by_cases c : t = "int"
  · subst c
    obtain ⟨i, rfl⟩ := ty_isint e
    have q : Q (.bl (decide (lo ≤ i) && decide (i ≤ hi))) h := q
    simp only [decide_true, if_true, u_cmpI]
    by_cases d : lo ≤ i
    · rw [decide_eq_true d] at q ⊢
      exact fin_of q
    · rw [decide_eq_false d] at q ⊢
      exact fin_of q
  · rw [ty_noint e c] at q
    simp only [decide_eq_false c]
    exact fin_of q
theorem len_isBtw : ∀ ds h Q X, S_isBtw ds h Q X → ds.length = 3 := fun _ _ _ _ ⟨_, _, _, _, e, _⟩ => by rw [e]; rfl
theorem mo_isBtw : MoF S_isBtw := fun _ _ _ _ _ _ hq _ ⟨a, b, c, d, e, o, q⟩ => ⟨a, b, c, d, e, o, hq _ _ q⟩
def S_needCap : FSpec := fun ds h Q _ => ∃ c : Int, ds = [.int c] ∧ 1 ≤ c ∧ c ≤ 10 ^ 30 ∧ Q .non h
def wr_needCap : WS := (wIfS (wNot (wTest (wCallP S_isBtw 3 (fun ds _ => ds) (wCons (wVar 0) (wCons (wC (.int 1)) (wCons (wC (.int 1000000000000000000000000000000)) wNil)))))) wNever wSkip)
theorem pr_needCap : ∀ ds h Q X, S_needCap ds h Q X → wr_needCap (endsD Q X) (startD 1 ds) h := by
  rintro ds h Q X ⟨c, rfl, c1, c2, q⟩
  show wr_needCap (endsD Q X) [some (.int c)] h
  simp only [wr_needCap, u_asg, u_gN, u_ret, u_retN, u_skip, u_expr, u_ifs, u_c, u_op, u_neg, u_test, u_and, u_or, u_not, u_if, u_nil, u_cons, u_tup, u_lst, u_callP, u_call, u_b, u_chain, u_andV, u_addI, u_subI, u_mulI, u_divI, u_modI, u_powI, u_cmpI, u_eqI, u_eqS, u_eqB, u_abs, u_intI, u_intB, u_newT, u_newF, u_isN, u_notN, wVar, List.set_cons_zero, List.set_cons_succ, List.getElem?_cons_zero, List.getElem?_cons_succ, List.length_cons, List.length_nil, u_lc, u_for, u_r1, u_r2, u_r3, u_num, u_notV, u_yes, u_w0, u_w1]
  refine ⟨trivial, _, _, _, _, rfl, ty_int, ?_⟩
  have : btw (.int c) 1 1000000000000000000000000000000 = true := by
    show (decide (1 ≤ c) && decide (c ≤ 1000000000000000000000000000000)) = true
    rw [decide_eq_true c1, decide_eq_true (by omega)]; rfl
  rw [this]
  exact fin_of q
theorem len_needCap : ∀ ds h Q X, S_needCap ds h Q X → ds.length = 1 := fun _ _ _ _ ⟨_, e, _⟩ => by rw [e]; rfl
theorem mo_needCap : MoF S_needCap := fun _ _ _ _ _ _ hq _ ⟨a, e, o, o2, q⟩ => ⟨a, e, o, o2, hq _ _ q⟩
def S_isRow : FSpec := fun ds h Q _ => ∃ r : Int × Int, ds = [pairD r] ∧ Q (.bl (decide (0 ≤ r.1) && decide (r.1 ≤ 1000000))) h
def wr_isRow : WS := (wSeq (wIfS (wOr (wNot (wTest (wB dIsi (wCons (wVar 0) (wCons (wC (.ty "tuple")) wNil))))) (wTest (wOp (dEq fun b => !b) (wB dLen (wCons (wVar 0) wNil)) (wC (.int 2))))) (wRet (wC (.bl false))) wSkip)
  (wRet (wAndV (wCallP S_isBtw 3 (fun ds _ => ds) (wCons (wOp dIx (wVar 0) (wC (.int 0))) (wCons (wC (.int 0)) (wCons (wC (.int 1000000)) wNil)))) (wCallP S_isInt 1 (fun ds _ => ds) (wCons (wOp dIx (wVar 0) (wC (.int 1))) wNil)))))
theorem pr_isRow : ∀ ds h Q X, S_isRow ds h Q X → wr_isRow (endsD Q X) (startD 1 ds) h := by
  rintro ds h Q X ⟨r, rfl, q⟩
  show wr_isRow (endsD Q X) [some (pairD r)] h
  unfold wr_isRow
  rw [u_seq]
  simp only [u_asg, u_gN, u_ret, u_retN, u_skip, u_expr, u_ifs, u_c, u_op, u_neg, u_test, u_and, u_or, u_not, u_if, u_nil, u_cons, u_tup, u_lst, u_callP, u_call, u_b, u_chain, u_andV, u_addI, u_subI, u_mulI, u_divI, u_modI, u_powI, u_cmpI, u_eqI, u_eqS, u_eqB, u_abs, u_intI, u_intB, u_newT, u_newF, u_isN, u_notN, wVar, List.set_cons_zero, List.set_cons_succ, List.getElem?_cons_zero, List.getElem?_cons_succ, List.length_cons, List.length_nil, u_lc, u_for, u_r1, u_r2, u_r3, u_num, u_notV, u_yes, u_w0, u_w1]
  refine ⟨_, _, "tuple", _, rfl, rfl, rfl, ?_⟩
  refine ⟨2, rfl, ?_⟩
  simp only [u_asg, u_gN, u_ret, u_retN, u_skip, u_expr, u_ifs, u_c, u_op, u_neg, u_test, u_and, u_or, u_not, u_if, u_nil, u_cons, u_tup, u_lst, u_callP, u_call, u_b, u_chain, u_andV, u_addI, u_subI, u_mulI, u_divI, u_modI, u_powI, u_cmpI, u_eqI, u_eqS, u_eqB, u_abs, u_intI, u_intB, u_newT, u_newF, u_isN, u_notN, wVar, List.set_cons_zero, List.set_cons_succ, List.getElem?_cons_zero, List.getElem?_cons_succ, List.length_cons, List.length_nil, u_lc, u_for, u_r1, u_r2, u_r3, u_num, u_notV, u_yes, u_w0, u_w1, ix_p0, ix_p1]
  refine ⟨trivial, _, _, _, _, rfl, ty_int, ?_⟩
  show (if (btw (.int r.1) 0 1000000) = true then _ else _)
  have e : btw (.int r.1) 0 1000000 = (decide (0 ≤ r.1) && decide (r.1 ≤ 1000000)) := rfl
  rw [e]
  by_cases c : (decide (0 ≤ r.1) && decide (r.1 ≤ 1000000)) = true
  · rw [if_pos c]
    rw [c] at q
    exact ⟨trivial, _, _, rfl, ty_int, fin_of q⟩
  · rw [if_neg c]
    rw [eq_false_of_ne_true c] at q
    exact fin_of q
theorem len_isRow : ∀ ds h Q X, S_isRow ds h Q X → ds.length = 1 := fun _ _ _ _ ⟨_, e, _⟩ => by rw [e]; rfl
theorem mo_isRow : MoF S_isRow := fun _ _ _ _ _ _ hq _ ⟨a, e, q⟩ => ⟨a, e, hq _ _ q⟩
end DL
namespace DL
open PySem PySem.Spec L2 C8
section
variable {X : Cx} {E : XK} {tg l : Expr} {wa : WE}
/-- a list or a tuple, walked -/
def iAny (wa : WE) : WI := fun ρ h R X => wa ρ h (fun x h1 => match x with
  | .tup xs => R xs (fun _ => True) h1
  | .tpl xs => R xs (fun _ => True) h1
  | .lst xs => R xs (fun _ => True) h1
  | .ref a => ∃ xs, h1 a = some (.lst xs) ∧ R xs (fun h => h a = some (.lst xs)) h1
  | _ => False) X
theorem u_any {a : WE} {ρ : EnvD} {h : AH} {X : KX} {R : List D → (AH → Prop) → AH → Prop} : iAny a ρ h R X = a ρ h (fun x h1 => match x with
  | .tup xs => R xs (fun _ => True) h1
  | .tpl xs => R xs (fun _ => True) h1
  | .lst xs => R xs (fun _ => True) h1
  | .ref a => ∃ xs, h1 a = some (.lst xs) ∧ R xs (fun h => h a = some (.lst xs)) h1
  | _ => False) X := rfl
/-- a sequence that does not change -/
def IsS (d : D) (xs : List D) : Prop := d = .tup xs ∨ d = .tpl xs ∨ d = .lst xs
theorem IsS.iter {d : D} {xs : List D} (t : IsS d xs) {ρ : EnvD} {h : AH} {X : KX} {i : Nat} {R : List D → (AH → Prop) → AH → Prop} (e : ρ[i]? = some (some d)) (k : R xs (fun _ => True) h) : iAny (wVar i) ρ h R X := by
  rw [u_any, u_var e]
  rcases t with rfl | rfl | rfl <;> exact k
end
/-! ### isinstance of an own class -/
structure IsiC (K : PySem.W.Frag) (C : Addr) : Prop where
  cl : Cls K C
  ha : PySem.W.findIn K (.ref C) "__class__" = some (some (.builtin "object.__class__"))
  hn : PySem.W.specialIn K (.builtin "object.__class__") "__get__" = some (some (.builtin "getset_descriptor.__get__"))
  ht : PySem.W.takesIn K (.builtin "object.__class__") = some true
  hm : PySem.W.mroIn K C (.type "object") = some true
theorem cst_ref {K : PySem.W.Frag} {mg : Str → Option Value} {x : Str} {C : Addr} (h : mg x = some (.ref C)) : Cst K mg x (.ref C) := ⟨⟨.ref C, _, h, rfl, fun _ => .ref C⟩⟩
section
variable {X : Cx}
def dIsiO (C : Addr) (ds : List D) (h : AH) (Q : KD) : Prop := ∃ x, ds = [x, .ref C] ∧ isI C x h ∧ Q (.bl true) h
theorem dIsiO_ok {C : Addr} (c : IsiC X.K C) : CaD X (.builtin "isinstance") (dIsiO C) where
  ex := ⟨_, call_isi, fun {F h H ds vs Q} S r q => by
    obtain ⟨x, rfl, ⟨fs, ei⟩, q⟩ := q
    obtain ⟨v, w, rfl, r1, r2⟩ := r.two
    cases r2
    obtain ⟨a, dx, us, rfl, ha, _⟩ := S.insOf r1 ei
    exact ⟨_, _, .ref C, .ref C, true, rfl, .own C, .base (.ins ha c.cl c.ha c.hn c.ht c.hm), by unfold PySem.W.kitOne; rw [if_pos (by simp)], q.at S (.bl _)⟩⟩
  mo := fun {ds h Q Q'} hq ⟨x, e, i, q⟩ => ⟨x, e, i, hq _ _ q⟩
end
end DL
namespace DL
open PySem PySem.Spec L2 C8
end DL
namespace L2
open PySem PySem.Spec PyProof.Rows
mutual
/-- a pattern of texts: none takes all -/
inductive PatOk : Pattern → Option (List Str) → Prop
  | val {w : Str} {j p q} : PatOk (.MatchValue (.Constant (.str w) j p) q) (some [w])
  | or {ps : List Pattern} {ws : List Str} {q} (h : PatsOk ps ws) : PatOk (.MatchOr ps q) (some ws)
  | any {q} : PatOk (.MatchAs none none q) none
inductive PatsOk : List Pattern → List Str → Prop
  | nil : PatsOk [] []
  | cons {w : Str} {j p q} {ps : List Pattern} {ws : List Str} (h : PatsOk ps ws) : PatsOk (.MatchValue (.Constant (.str w) j p) q :: ps) (w :: ws)
end
def takesW : Option (List Str) → Str → Bool
  | none, _ => true
  | some ws, x => ws.any fun w => decide (x = w)
inductive CasesOk (X : Cx) : List MatchCase → List (Option (List Str) × TS) → Prop
  | nil : CasesOk X [] []
  | cons {p : Pattern} {o : Option (List Str)} {body : List Stmt} {t : TS} {rest : List MatchCase} {l : List (Option (List Str) × TS)} (hp : PatOk p o) (hb : PSs X body t) (r : CasesOk X rest l) : CasesOk X (⟨p, none, body⟩ :: rest) ((o, t) :: l)
end L2
namespace DL
open PySem PySem.Spec L2
/-- the cases of a match over a text -/
def pickM : List (Option (List Str) × WS) → Str → WS
  | [], _ => wSkip
  | (o, s) :: r, w => fun D ρ h => if takesW o w = true then s D ρ h else pickM r w D ρ h
section
variable {X : Cx} {E : XK} {e : Expr} {we : WE} {pos : Pos}
inductive ACs (X : Cx) (E : XK) : List MatchCase → List (Option (List Str) × WS) → Prop
  | nil : ACs X E [] []
  | cons {p : Pattern} {o : Option (List Str)} {body : List Stmt} {t : WS} {rest : List MatchCase} {l : List (Option (List Str) × WS)} (hp : PatOk p o) (hb : ASs X E body t) (r : ACs X E rest l) : ACs X E (⟨p, none, body⟩ :: rest) ((o, t) :: l)
theorem ACs.cs {cs : List MatchCase} {l : List (Option (List Str) × WS)} (h : ACs X E cs l) : CasesOk X cs (l.map fun x => (x.1, tS X.K E x.2)) := by
  induction h with
  | nil => exact .nil
  | cons hp hb r ih => exact .cons hp hb.run ih
theorem ACs.mo {cs : List MatchCase} {l : List (Option (List Str) × WS)} (h : ACs X E cs l) : ∀ w, MoS (pickM l w) := by
  induction h with
  | nil => intro w D D' ρ h l q; exact l.nx _ _ q
  | @cons p o body t rest l hp hb r ih =>
    intro w D D' ρ h le q
    unfold pickM at q ⊢
    by_cases c : takesW o w = true
    · rw [if_pos c] at q ⊢; exact hb.mo _ _ _ _ le q
    · rw [if_neg c] at q ⊢; exact ih w _ _ _ _ le q
end
end DL
namespace DL
open PySem PySem.Spec L2 C8
/-! ### two ways to read one thing (an instance of one class or of another) -/
def wOrE (a b : WE) : WE := fun ρ h Q X => a ρ h Q X ∨ b ρ h Q X
def wOrS (a b : WS) : WS := fun D ρ h => a D ρ h ∨ b D ρ h
section
variable {X : Cx} {E : XK} {e : Expr} {st : Stmt} {a b : WE} {s1 s2 : WS}
theorem AE.or (h1 : AE X E e a) (h2 : AE X E e b) : AE X E e (wOrE a b) := by
  refine ⟨⟨fun pins s σ H Q I h => ?_⟩, fun ρ h Q Q' X X' hq hx q => q.elim (fun q => .inl (h1.mo _ _ _ _ _ _ hq hx q)) (fun q => .inr (h2.mo _ _ _ _ _ _ hq hx q))⟩
  obtain ⟨F, ρ, g, S, R, q⟩ := h
  rcases q with q | q
  · exact h1.run.run pins s σ H Q I ⟨F, ρ, g, S, R, q⟩
  · exact h2.run.run pins s σ H Q I ⟨F, ρ, g, S, R, q⟩
theorem AS.or (h1 : AS X E st s1) (h2 : AS X E st s2) : AS X E st (wOrS s1 s2) := by
  refine ⟨⟨fun pins s σ H D I h => ?_⟩, fun D D' ρ h l q => q.elim (fun q => .inl (h1.mo _ _ _ _ l q)) (fun q => .inr (h2.mo _ _ _ _ l q))⟩
  obtain ⟨F, ρ, g, S, R, q⟩ := h
  rcases q with q | q
  · exact h1.run.run pins s σ H D I ⟨F, ρ, g, S, R, q⟩
  · exact h2.run.run pins s σ H D I ⟨F, ρ, g, S, R, q⟩
end
/-! ### starred parts -/
end DL
namespace DL
open PySem PySem.Spec L2 C8
/-- where the package's classes stand -/
structure Ad where
  Program : Addr := 0
  LineProgram : Addr := 0
  Walk : Addr := 0
  Ledger : Addr := 0
  Lengths : Addr := 0
  Kind : Addr := 0
  Machine : Addr := 0
  LateMachine : Addr := 0
  Trial : Addr := 0
  Group : Addr := 0
  Ground : Addr := 0
  BodyReader : Addr := 0
  Meter : Addr := 0
  Change : Addr := 0
  Desk : Addr := 0
  Account : Addr := 0
  EchoError : Addr := 0
  SizeError : Addr := 0
  AbsentError : Addr := 0
  InvalidProgram : Addr := 0
  InvalidMode : Addr := 0
  InvalidNumber : Addr := 0
  InvalidCapacity : Addr := 0
  InvalidRow : Addr := 0
  InvalidTable : Addr := 0
  InvalidAccount : Addr := 0
  InvalidReading : Addr := 0
  InvalidBound : Addr := 0
  InvalidText : Addr := 0
  Lossy : Addr := 0
  DifferentModes : Addr := 0
  Contradiction : Addr := 0
  UnknownCommand : Addr := 0
  TooLarge : Addr := 0
  TooLong : Addr := 0
  TooManyProcesses : Addr := 0
  Full : Addr := 0
  NoPlace : Addr := 0
  NoPoint : Addr := 0
  NoReading : Addr := 0
  NoName : Addr := 0
  NothingToUndo : Addr := 0
  Finished : Addr := 0
  t0 : Addr := 0
  t1 : Addr := 0
  t2 : Addr := 0
  t3 : Addr := 0
  t4 : Addr := 0
  t5 : Addr := 0
  t6 : Addr := 0
  t7 : Addr := 0
  t8 : Addr := 0
  t9 : Addr := 0
  t10 : Addr := 0
  t11 : Addr := 0
  t12 : Addr := 0
  t13 : Addr := 0
  t14 : Addr := 0
  t15 : Addr := 0
end DL
namespace PK
open PySem PySem.Spec L2 C8 DL
abbrev N_is_integer : List Str := ["value"]
abbrev N_is_between : List Str := ["value", "least", "most"]
end PK
namespace PK
open PySem PySem.Spec L2 C8 DL
/-! ### things: data of all kinds, no dict but {} -/
def bare (w : Str) : Bool := inD (.str w) [.str "line", .str "flush", .str "drop", .str "both", .str "exit", .str "quit"]
abbrev S_is_integer (z : Ad) : FSpec := S_isInt
abbrev S_is_between (z : Ad) : FSpec := S_isBtw
/-! ### actions and bodies -/
inductive Ac where
  | bare (w : Str) | write (n : Nat) | fork (b : List Ac) | rep (n : Nat) (b : List Ac)
mutual
def enc : Ac → D
  | .bare w => .tup [.str w]
  | .write n => .tup [.str "write", .int n]
  | .fork b => .tup [.str "fork", .tup (encs b)]
  | .rep n b => .tup [.str "repeat", .int n, .tup (encs b)]
def encs : List Ac → List D
  | [] => []
  | a :: r => enc a :: encs r
end
def word : Ac → Str
  | .bare w => w
  | .write _ => "write"
  | .fork _ => "fork"
  | .rep _ _ => "repeat"
def byt : Ac → Nat
  | .bare w => if w = "line" then 1 else 0
  | .write n => n
  | .fork _ => 0
  | .rep _ _ => 0
mutual
def sizA : Ac → Nat
  | .bare _ => 1
  | .write _ => 1
  | .fork b => 1 + sizB b
  | .rep n b => n * sizB b
def sizB : List Ac → Nat
  | [] => 0
  | a :: r => sizA a + sizB r
end
/-! .. a repeat of none counted as one -/
/-! all actions with their places -/
/-! the words, children behind their action -/
/-! ### programs: of the one class or the other -/
def clsOf (z : Ad) (lm : Bool) : Addr := if lm = true then z.LineProgram else z.Program
def prog (z : Ad) (lm : Bool) (b : List Ac) : D := .ob (clsOf z lm) [("held", .tup (encs b))]
/-! ### the walk -/
abbrev WSt := Nat × Nat × Bool
def leftS (lm : Bool) (a : Ac) (s : WSt) : WSt :=
  if word a = "exit" ∨ word a = "quit" then (0, s.2.1, s.2.2)
  else if word a = "flush" ∨ word a = "drop" ∨ (word a = "line" ∧ lm = true) then (s.1, 0, false)
  else (s.1, s.2.1 + byt a, s.2.2)
def passS (lm : Bool) (a : Ac) (s : WSt) : WSt :=
  if word a = "fork" then s else if word a = "both" then (2 * s.1, s.2.1, s.2.2) else leftS lm a s
def folS (lm : Bool) : List Ac → WSt → WSt
  | [], s => s
  | a :: r, s => folS lm r (passS lm a s)
structure Note where
  pt : Nat
  off : Nat
  amt : Int
  early : Bool
def note1 (p : Nat) (s : WSt) (v : Int) : List Note := if s.1 = 0 then [] else [⟨p, s.2.1, v, s.2.2⟩]
mutual
def noteA (lm : Bool) : Nat → Ac → WSt → List Note
  | p, .bare w, s => if w = "both" then note1 p s s.1 else if w = "drop" ∨ w = "quit" then note1 p s (-(s.1 : Int)) else []
  | _, .write _, _ => []
  | p, .fork b, s => note1 p s s.1 ++ noteB lm (p + 1) b s
  | _, .rep _ _, _ => []
def noteB (lm : Bool) : Nat → List Ac → WSt → List Note
  | _, [], _ => []
  | p, a :: r, s => noteA lm p a s ++ noteB lm (p + sizA a) r (passS lm a s)
end
end PK
namespace PK
open PySem PySem.Spec L2 C8 DL
/-! ### the readings -/
def w_is_integer (z : Ad) : WS := (wRet (wAndV (wB dIsi (wCons (wVar 0) (wCons (wC (.ty "int")) wNil))) (wNotV (wB dIsi (wCons (wVar 0) (wCons (wC (.ty "bool")) wNil))))))
def w_is_between (z : Ad) : WS := (wRet (wAndV (wCallP (S_is_integer z) 1 (fun ds _ => ds) (wCons (wVar 0) wNil)) (wChain (dCmpI fun i j => decide (i ≤ j)) (dCmpI fun i j => decide (i ≤ j)) (wVar 1) (wVar 0) (wVar 2))))
end PK
namespace PK
open PySem PySem.Spec L2 C8 DL
theorem p_is_integer (z : Ad) : ∀ ds h Q X, S_is_integer z ds h Q X → w_is_integer z (endsD Q X) (startD 1 ds) h := pr_isInt
theorem len_is_integer (z : Ad) : ∀ ds h Q X, S_is_integer z ds h Q X → ds.length = 1 := len_isInt
theorem mo_is_integer (z : Ad) : MoF (S_is_integer z) := mo_isInt
theorem p_is_between (z : Ad) : ∀ ds h Q X, S_is_between z ds h Q X → w_is_between z (endsD Q X) (startD 3 ds) h := pr_isBtw
theorem len_is_between (z : Ad) : ∀ ds h Q X, S_is_between z ds h Q X → ds.length = 3 := len_isBtw
theorem mo_is_between (z : Ad) : MoF (S_is_between z) := mo_isBtw
/-! things -/
/-! is_head -/
theorem big_size : 100000 ≤ sizeLine := by decide
end PK
namespace PK
open PySem PySem.Spec L2 C8 DL
/-! ### loops over what is left -/
/-! ### typed lists -/
end PK
namespace PK
open PySem PySem.Spec L2 C8 DL
theorem sz_le {n : Nat} (h : n ≤ 100000) : n ≤ sizeLine := Nat.le_trans h big_size
end PK
namespace PK
open PySem PySem.Spec L2 C8 DL
end PK
namespace PK
open PySem PySem.Spec L2 C8 DL
end PK
namespace PK
open PySem PySem.Spec L2 C8 DL
end PK
namespace PK
open PySem PySem.Spec L2 C8 DL
end PK
namespace PK
open PySem PySem.Spec L2 C8 DL
end PK
namespace PK
open PySem PySem.Spec L2 C8 DL
end PK
namespace PK
open PySem PySem.Spec L2 C8 DL
end PK
namespace PK
open PySem PySem.Spec L2 C8 DL
/-! ### more for families of laws -/
end PK
namespace PK
open PySem PySem.Spec L2 C8 DL
/-! ### bodies and words may be shown -/
structure Rps (xs : List D) (k n : Nat) : Prop where
  da : dats xs = true
  sh : PyData.showableAll (pds xs) = true
  de : PyData.depthAll (pds xs) ≤ k
  le : ((PyData.shownAll (pds xs)).map fun t => t.length + 2).sum ≤ n
theorem Rps.up {xs : List D} {k n l m : Nat} (r : Rps xs k n) (h1 : k ≤ l) (h2 : n ≤ m) : Rps xs l m := ⟨r.da, r.sh, Nat.le_trans r.de h1, Nat.le_trans r.le h2⟩
theorem rp_st {s : Str} {n : Nat} (h : (PyData.str s).shown.length ≤ n) : Rp (.str s) 0 n := ⟨rfl, by rw [pd, PyData.showable], by rw [pd, PyData.depth]; exact Nat.le_refl _, by rw [pd]; exact h⟩
theorem text_same {f : Bool → Bool} {s : Str} {h : AH} {Q : KD} (q : Q (.bl (f true)) h) : dEq f (.str s) (.str s) h Q := by
  rw [u_eqS, decide_eq_true rfl]; exact q
theorem cur_r {h : AH} {r : Addr} {xs : List D} (e : h r = some (.lst xs)) : cur h (.ref r) = .lst xs := by simp [cur, e]
theorem rp_r {r : Addr} {xs : List D} {k n : Nat} {h : AH} {Q : KD} (e : h r = some (.lst xs)) (rp : Rp (.lst xs) k n) (hk : k ≤ 60) (hn : n ≤ 16000000) (q : Q (.str (pd (.lst xs)).shown) h) : dRepr [.ref r] h Q := by
  have c := cur_r e
  exact ⟨_, rfl, by rw [c]; exact rp.da, by rw [c]; exact rp.sh, by rw [c]; exact Nat.le_trans rp.de hk, by rw [c]; exact Nat.le_trans rp.le (Nat.le_trans hn (by decide)), by rw [c]; exact q⟩
end PK
namespace DL
open PySem PySem.Spec L2 C8
/-! ### the draw of the laws k22-k35, k92 .. -/
def w_draw3 : WS := (wSeq (wIfS (wTest (wOp (dCmpI fun i j => decide (j < i)) (wOp dIx (wVar 0) (wC (.int 2))) (wC (.int 0)))) (wSeq (wAsg (wOp dMod (wOp dIx (wVar 0) (wC (.int 2))) (wVar 1)) (gN 2))
  (wSeq (wAsg (wOp dDiv (wOp dIx (wVar 0) (wC (.int 2))) (wVar 1)) (gSubL (wVar 0) (wC (.int 2))))
  (wRet (wVar 2)))) wSkip)
  (wSeq (wAsg (wOp dIx (wVar 0) (wC (.int 1))) (gN 3))
  (wSeq (wAsg (wOp (dAdd false) (wVar 3) (wC (.int 1))) (gSubL (wVar 0) (wC (.int 1))))
  (wSeq (wAsg (wOp (dAdd false) (wOp (dMul false) (wC (.int 4519)) (wVar 3)) (wC (.int 631))) (gN 4))
  (wSeq (wIfS (wTest (wOp (dEq fun b => !b) (wOp dIx (wVar 0) (wC (.int 0))) (wLst false wNil))) (wAsg (wOp dIx (wOp dIx (wVar 0) (wC (.int 0))) (wOp dMod (wVar 3) (wB dLen (wCons (wOp dIx (wVar 0) (wC (.int 0))) wNil)))) (gN 4)) wSkip)
  (wSeq (wIfS (wAnd (wTest (wOp (dCmpI fun i j => decide (i < j)) (wVar 3) (wB dLen (wCons (wOp dIx (wVar 0) (wC (.int 0))) wNil)))) (wTest (wOp (dCmpI fun i j => decide (j ≤ i)) (wB dAbs (wCons (wVar 4) wNil)) (wOp dPow (wC (.int 10)) (wC (.int 18)))))) (wSeq (wAsg (wOp (dAdd false) (wOp (dMul false) (wC (.int 2)) (wB dAbs (wCons (wVar 4) wNil))) (wB dInt (wCons (wOp (dCmpI fun i j => decide (i < j)) (wVar 4) (wC (.int 0))) wNil))) (gN 5))
  (wSeq (wAsg (wOp dDiv (wVar 5) (wVar 1)) (gSubL (wVar 0) (wC (.int 2))))
  (wRet (wOp dMod (wVar 5) (wVar 1))))) wSkip)
  (wSeq (wAsg (wOp dMod (wOp dPow (wOp (dAdd false) (wOp (dAdd false) (wOp dMod (wVar 4) (wC (.int 2147483423))) (wOp (dMul false) (wC (.int 61007)) (wVar 3))) (wC (.int 179))) (wC (.int 5))) (wC (.int 2147483647))) (gN 6))
  (wSeq (wAsg (wOp dMod (wOp dPow (wOp (dAdd false) (wOp (dAdd false) (wOp (dMul false) (wVar 6) (wOp (dAdd false) (wVar 3) (wC (.int 30011)))) (wOp (dMul false) (wOp (dMul false) (wC (.int 73013)) (wVar 3)) (wVar 3))) (wC (.int 37))) (wC (.int 3))) (wC (.int 2147483563))) (gN 6))
  (wRet (wOp dMod (wOp dDiv (wVar 6) (wC (.int 32))) (wVar 1)))))))))))
theorem p_draw3 : ∀ ds h Q X, S_draw ds h Q X → w_draw3 (endsD Q X) (startD 7 ds) h := by
  rintro ds h Q X ⟨n, p, m, rfl, ⟨_, hp, cs, at_, gr, rfl, l1, l2, l3, l4⟩, hn, dm, q⟩
  show w_draw3 (endsD Q X) [some (.ref p), some (.int m), none, none, none, none, none] h
  have hm : 0 < m := dm.1
  unfold w_draw3
  rw [u_seq]
  simp only [u_asg, u_gN, u_ret, u_retN, u_skip, u_expr, u_ifs, u_c, u_op, u_neg, u_test, u_and, u_or, u_not, u_if, u_nil, u_cons, u_tup, u_lst, u_callP, u_call, u_b, u_chain, u_andV, u_addI, u_subI, u_mulI, u_divI, u_modI, u_powI, u_cmpI, u_eqI, u_eqS, u_eqB, u_abs, u_intI, u_intB, u_newT, u_newF, u_isN, u_notN, wVar, List.set_cons_zero, List.set_cons_succ, List.getElem?_cons_zero, List.getElem?_cons_succ, List.length_cons, List.length_nil, u_ixRd hp at2]
  by_cases c : 0 < gr
  · simp only [decide_eq_true c, if_true, u_seq, u_asg, u_gN, u_ret, u_retN, u_skip, u_expr, u_ifs, u_c, u_op, u_neg, u_test, u_and, u_or, u_not, u_if, u_nil, u_cons, u_tup, u_lst, u_callP, u_call, u_b, u_chain, u_andV, u_addI, u_subI, u_mulI, u_divI, u_modI, u_powI, u_cmpI, u_eqI, u_eqS, u_eqB, u_abs, u_intI, u_intB, u_newT, u_newF, u_isN, u_notN, wVar, List.set_cons_zero, List.set_cons_succ, List.getElem?_cons_zero, List.getElem?_cons_succ, List.length_cons, List.length_nil, u_ixRd hp at2, gSubL]
    refine ⟨hm, dm, p, _, 2, 2, rfl, rfl, hp, rfl, fin_of (q _ _ (Int.emod_nonneg _ (by omega)) (Int.emod_lt_of_pos _ hm) ⟨cs, at_, gr / m, rfl, l1, l2, by omega, Int.ediv_nonneg l4 (by omega)⟩)⟩
  simp only [decide_eq_false c, Bool.false_eq_true, if_false]
  rw [u_seq]
  simp only [u_asg, u_gN, u_ret, u_retN, u_skip, u_expr, u_ifs, u_c, u_op, u_neg, u_test, u_and, u_or, u_not, u_if, u_nil, u_cons, u_tup, u_lst, u_callP, u_call, u_b, u_chain, u_andV, u_addI, u_subI, u_mulI, u_divI, u_modI, u_powI, u_cmpI, u_eqI, u_eqS, u_eqB, u_abs, u_intI, u_intB, u_newT, u_newF, u_isN, u_notN, wVar, List.set_cons_zero, List.set_cons_succ, List.getElem?_cons_zero, List.getElem?_cons_succ, List.length_cons, List.length_nil, u_ixRd hp at1]
  rw [u_seq]
  simp only [u_asg, u_gN, u_ret, u_retN, u_skip, u_expr, u_ifs, u_c, u_op, u_neg, u_test, u_and, u_or, u_not, u_if, u_nil, u_cons, u_tup, u_lst, u_callP, u_call, u_b, u_chain, u_andV, u_addI, u_subI, u_mulI, u_divI, u_modI, u_powI, u_cmpI, u_eqI, u_eqS, u_eqB, u_abs, u_intI, u_intB, u_newT, u_newF, u_isN, u_notN, wVar, List.set_cons_zero, List.set_cons_succ, List.getElem?_cons_zero, List.getElem?_cons_succ, List.length_cons, List.length_nil, gSubL]
  refine ⟨p, _, 1, 1, rfl, rfl, hp, rfl, ?_⟩
  have e1 : ([D.lst (cs.map D.int), D.int at_, D.int gr].set 1 (D.int (at_ + 1))) = [D.lst (cs.map D.int), D.int (at_ + 1), D.int gr] := rfl
  rw [e1]
  have ug : ∀ o, up (up h p (.lst [D.lst (cs.map D.int), D.int (at_ + 1), D.int gr])) p o = up h p o := fun o => up_up
  have gp : (up h p (.lst [D.lst (cs.map D.int), D.int (at_ + 1), D.int gr])) p = some (.lst [D.lst (cs.map D.int), D.int (at_ + 1), D.int gr]) := up_same
  have fin0 : ∀ v, 0 ≤ v → v < m → Q (.int v) (up h p (.lst [D.lst (cs.map D.int), D.int (at_ + 1), D.int gr])) := fun v h1 h2 => q v _ h1 h2 ⟨cs, at_ + 1, gr, rfl, l1, by omega, by omega, l4⟩
  have fin1 : ∀ v g, 0 ≤ v → v < m → 0 ≤ g → Q (.int v) (up h p (.lst [D.lst (cs.map D.int), D.int (at_ + 1), D.int g])) := fun v g h1 h2 h3 => q v _ h1 h2 ⟨cs, at_ + 1, g, rfl, l1, by omega, by omega, h3⟩
  generalize hg : up h p (.lst [D.lst (cs.map D.int), D.int (at_ + 1), D.int gr]) = g at gp ug fin0 ⊢
  rw [u_seq]
  simp only [u_asg, u_gN, u_ret, u_retN, u_skip, u_expr, u_ifs, u_c, u_op, u_neg, u_test, u_and, u_or, u_not, u_if, u_nil, u_cons, u_tup, u_lst, u_callP, u_call, u_b, u_chain, u_andV, u_addI, u_subI, u_mulI, u_divI, u_modI, u_powI, u_cmpI, u_eqI, u_eqS, u_eqB, u_abs, u_intI, u_intB, u_newT, u_newF, u_isN, u_notN, wVar, List.set_cons_zero, List.set_cons_succ, List.getElem?_cons_zero, List.getElem?_cons_succ, List.length_cons, List.length_nil]
  refine ⟨mul_l (by decide), ?_⟩
  -- the cell
  refine seq_go (fun ρ h => g = h ∧ ∃ c : Int, ρ = [some (.ref p), some (.int m), none, some (.int at_), some (.int c), none, none]) (fun K k => ?_) ?_
  · simp only [u_asg, u_gN, u_ret, u_retN, u_skip, u_expr, u_ifs, u_c, u_op, u_neg, u_test, u_and, u_or, u_not, u_if, u_nil, u_cons, u_tup, u_lst, u_callP, u_call, u_b, u_chain, u_andV, u_addI, u_subI, u_mulI, u_divI, u_modI, u_powI, u_cmpI, u_eqI, u_eqS, u_eqB, u_abs, u_intI, u_intB, u_newT, u_newF, u_isN, u_notN, wVar, List.set_cons_zero, List.set_cons_succ, List.getElem?_cons_zero, List.getElem?_cons_succ, List.length_cons, List.length_nil, u_ixRd gp at0]
    refine ⟨Nat.zero_le _, eq_nil ?_⟩
    by_cases z : cs = []
    · rw [decide_eq_true z]
      exact k _ _ ⟨rfl, _, rfl⟩
    rw [decide_eq_false z]
    simp only [Bool.not_false, if_true, u_ixRd gp at0, u_lenL, u_modI, u_ixL]
    have lc : 0 < cs.length := List.length_pos_iff.mpr z
    have lp : (0 : Int) < ((cs.map D.int).length : Nat) := by rw [List.length_map]; omega
    refine ⟨lp, ?_⟩
    have a0 := Int.emod_nonneg at_ (show (((cs.map D.int).length : Nat) : Int) ≠ 0 by omega)
    have a1 := Int.emod_lt_of_pos at_ lp
    obtain ⟨j, ej⟩ := Int.eq_ofNat_of_zero_le a0
    rw [ej] at a1 ⊢
    rw [List.length_map] at a1
    have lj : j < cs.length := by omega
    refine ⟨.int cs[j], ?_, k _ _ ⟨rfl, _, rfl⟩⟩
    rw [atI_nat (by rw [List.length_map]; exact lj), List.getElem?_map, List.getElem?_eq_getElem lj]
    rfl
  rintro _ _ ⟨rfl, c, rfl⟩
  refine seq_go (fun ρ h => g = h ∧ ρ = [some (.ref p), some (.int m), none, some (.int at_), some (.int c), none, none]) (fun K k => ?_) ?_
  · simp only [u_asg, u_gN, u_ret, u_retN, u_skip, u_expr, u_ifs, u_c, u_op, u_neg, u_test, u_and, u_or, u_not, u_if, u_nil, u_cons, u_tup, u_lst, u_callP, u_call, u_b, u_chain, u_andV, u_addI, u_subI, u_mulI, u_divI, u_modI, u_powI, u_cmpI, u_eqI, u_eqS, u_eqB, u_abs, u_intI, u_intB, u_newT, u_newF, u_isN, u_notN, wVar, List.set_cons_zero, List.set_cons_succ, List.getElem?_cons_zero, List.getElem?_cons_succ, List.length_cons, List.length_nil, u_ixRd gp at0, u_lenL]
    have k := k _ _ ⟨rfl, rfl⟩
    by_cases z : at_ < ((cs.map D.int).length : Nat)
    · rw [decide_eq_true z]
      simp only [if_true]
      refine ⟨by refine ⟨by decide, by decide, by decide⟩, ?_⟩
      by_cases y : (10 ^ Int.toNat 18 : Int) ≤ if c < 0 then -c else c
      · rw [if_pos (decide_eq_true y)]
        simp only [u_seq, u_asg, u_gN, u_ret, u_retN, u_skip, u_expr, u_ifs, u_c, u_op, u_neg, u_test, u_and, u_or, u_not, u_if, u_nil, u_cons, u_tup, u_lst, u_callP, u_call, u_b, u_chain, u_andV, u_addI, u_subI, u_mulI, u_divI, u_modI, u_powI, u_cmpI, u_eqI, u_eqS, u_eqB, u_abs, u_intI, u_intB, u_newT, u_newF, u_isN, u_notN, wVar, List.set_cons_zero, List.set_cons_succ, List.getElem?_cons_zero, List.getElem?_cons_succ, List.length_cons, List.length_nil, gSubL]
        have nn : 0 ≤ 2 * (if c < 0 then -c else c) + (if decide (c < 0) = true then 1 else 0) := by split <;> split <;> omega
        refine ⟨mul_l (by decide), dm, p, _, 2, 2, rfl, rfl, gp, rfl, hm, fin_of ?_⟩
        rw [ug]
        exact fin1 _ _ (Int.emod_nonneg _ (by omega)) (Int.emod_lt_of_pos _ hm) (Int.ediv_nonneg nn (by omega))
      · rw [if_neg (by rw [decide_eq_false y]; decide)]
        exact k
    · rw [decide_eq_false z]
      exact k
  rintro _ _ ⟨rfl, rfl⟩
  simp only [u_seq, u_asg, u_gN, u_ret, u_retN, u_skip, u_expr, u_ifs, u_c, u_op, u_neg, u_test, u_and, u_or, u_not, u_if, u_nil, u_cons, u_tup, u_lst, u_callP, u_call, u_b, u_chain, u_andV, u_addI, u_subI, u_mulI, u_divI, u_modI, u_powI, u_cmpI, u_eqI, u_eqS, u_eqB, u_abs, u_intI, u_intB, u_newT, u_newF, u_isN, u_notN, wVar, List.set_cons_zero, List.set_cons_succ, List.getElem?_cons_zero, List.getElem?_cons_succ, List.length_cons, List.length_nil]
  have b1 : 0 ≤ c % 2147483423 := Int.emod_nonneg _ (by decide)
  have b2 : c % 2147483423 < 2147483423 := Int.emod_lt_of_pos _ (by decide)
  have b3 : at_ ≤ 1000000 := by omega
  have b4 : 73013 * at_ * at_ ≤ 73013 * 1000000000000 := by
    rw [Int.mul_assoc]
    have := sq_le l2 b3
    omega
  have b5 : 0 ≤ 73013 * at_ * at_ := Int.mul_nonneg (by omega) l2
  generalize e6 : (c % 2147483423 + 61007 * at_ + 179) = u
  have b6 : 0 ≤ u ∧ u < 2 ^ 63 := by omega
  generalize e7 : u ^ Int.toNat 5 % 2147483647 = v
  have b7 : 0 ≤ v ∧ v < 2147483647 := by rw [← e7]; exact ⟨Int.emod_nonneg _ (by decide), Int.emod_lt_of_pos _ (by decide)⟩
  have b8 : v * (at_ + 30011) ≤ 2147483647 * (1000000 + 30011) := Int.mul_le_mul (by omega) (by omega) (by omega) (by omega)
  have b9 : 0 ≤ v * (at_ + 30011) := Int.mul_nonneg b7.1 (by omega)
  generalize e5 : 73013 * at_ * at_ = t at b4 b5 ⊢
  refine ⟨by decide, mul_l (by decide), ⟨by decide, by decide, by omega⟩, by decide, mul_l (by omega), mul_l (by decide), mul_l (by omega), ⟨by decide, by decide, by omega⟩, by decide, ⟨by decide, .inl (by decide)⟩, hm, fin_of (fin0 _ (Int.emod_nonneg _ (by omega)) (Int.emod_lt_of_pos _ hm))⟩
end DL
namespace F4
open PySem PySem.Spec L2 C8 DL PK
abbrev S__law_pen (z : Ad) : FSpec := S_pen
abbrev S__law_draw (z : Ad) : FSpec := S_draw
/-! bodies as lists -/
/-! rows: word, bytes, state ahead -/
end F4
namespace F4
open PySem PySem.Spec L2 C8 DL PK
/-! ### the readings -/
def w__law_pen (z : Ad) : WS := (wRet (wLst true (wCons (wB (dListOf false) (wCons (wSl false (wVar 0) woNone (woSome (wC (.int 63)))) wNil)) (wCons (wC (.int 0)) (wCons (wC (.int 0)) wNil)))))
def w__law_draw (z : Ad) : WS := (wSeq (wIfS (wTest (wOp (dCmpI fun i j => decide (j < i)) (wOp dIx (wVar 0) (wC (.int 2))) (wC (.int 0)))) (wSeq (wAsg (wOp dMod (wOp dIx (wVar 0) (wC (.int 2))) (wVar 1)) (gN 2))
  (wSeq (wAsg (wOp dDiv (wOp dIx (wVar 0) (wC (.int 2))) (wVar 1)) (gSubL (wVar 0) (wC (.int 2))))
  (wRet (wVar 2)))) wSkip)
  (wSeq (wAsg (wOp dIx (wVar 0) (wC (.int 1))) (gN 3))
  (wSeq (wAsg (wOp (dAdd false) (wVar 3) (wC (.int 1))) (gSubL (wVar 0) (wC (.int 1))))
  (wSeq (wAsg (wOp (dAdd false) (wOp (dMul false) (wC (.int 4519)) (wVar 3)) (wC (.int 631))) (gN 4))
  (wSeq (wIfS (wTest (wOp (dEq fun b => !b) (wOp dIx (wVar 0) (wC (.int 0))) (wLst false wNil))) (wAsg (wOp dIx (wOp dIx (wVar 0) (wC (.int 0))) (wOp dMod (wVar 3) (wB dLen (wCons (wOp dIx (wVar 0) (wC (.int 0))) wNil)))) (gN 4)) wSkip)
  (wSeq (wIfS (wAnd (wTest (wOp (dCmpI fun i j => decide (i < j)) (wVar 3) (wB dLen (wCons (wOp dIx (wVar 0) (wC (.int 0))) wNil)))) (wTest (wOp (dCmpI fun i j => decide (j ≤ i)) (wB dAbs (wCons (wVar 4) wNil)) (wOp dPow (wC (.int 10)) (wC (.int 18)))))) (wSeq (wAsg (wOp (dAdd false) (wOp (dMul false) (wC (.int 2)) (wB dAbs (wCons (wVar 4) wNil))) (wB dInt (wCons (wOp (dCmpI fun i j => decide (i < j)) (wVar 4) (wC (.int 0))) wNil))) (gN 5))
  (wSeq (wAsg (wOp dDiv (wVar 5) (wVar 1)) (gSubL (wVar 0) (wC (.int 2))))
  (wRet (wOp dMod (wVar 5) (wVar 1))))) wSkip)
  (wSeq (wAsg (wOp dMod (wOp dPow (wOp (dAdd false) (wOp (dAdd false) (wOp dMod (wVar 4) (wC (.int 2147483423))) (wOp (dMul false) (wC (.int 61007)) (wVar 3))) (wC (.int 179))) (wC (.int 5))) (wC (.int 2147483647))) (gN 6))
  (wSeq (wAsg (wOp dMod (wOp dPow (wOp (dAdd false) (wOp (dAdd false) (wOp (dMul false) (wVar 6) (wOp (dAdd false) (wVar 3) (wC (.int 30011)))) (wOp (dMul false) (wOp (dMul false) (wC (.int 73013)) (wVar 3)) (wVar 3))) (wC (.int 37))) (wC (.int 3))) (wC (.int 2147483563))) (gN 6))
  (wRet (wOp dMod (wOp dDiv (wVar 6) (wC (.int 32))) (wVar 1)))))))))))
end F4
namespace F4
open PySem PySem.Spec L2 C8 DL PK
theorem p__law_pen (z : Ad) : ∀ ds h Q X, S__law_pen z ds h Q X → w__law_pen z (endsD Q X) (startD 1 ds) h := p_pen
theorem len__law_pen (z : Ad) : ∀ ds h Q X, S__law_pen z ds h Q X → ds.length = 1 := len_pen
theorem mo__law_pen (z : Ad) : MoF (S__law_pen z) := mo_pen
theorem p__law_draw (z : Ad) : ∀ ds h Q X, S__law_draw z ds h Q X → w__law_draw z (endsD Q X) (startD 7 ds) h := p_draw3
theorem len__law_draw (z : Ad) : ∀ ds h Q X, S__law_draw z ds h Q X → ds.length = 2 := len_draw
theorem mo__law_draw (z : Ad) : MoF (S__law_draw z) := mo_draw
end F4
namespace PK
open PySem PySem.Spec L2 C8 DL
end PK
namespace DL
open PySem PySem.Spec L2 C8
/-! ### the ledger's methods -/
def InR (es : Prs) : Prop := ∀ e ∈ es, 0 ≤ e.1 ∧ e.1 ≤ 1000000
theorem InR.append {es fs : Prs} (a : InR es) (b : InR fs) : InR (es ++ fs) := fun e he => by
  rcases List.mem_append.mp he with h | h
  · exact a e h
  · exact b e h
theorem Led.inR {es rows : Prs} (h : Led es (amt rows)) (r : InR rows) : InR es := fun e he => by
  obtain ⟨h1, h2⟩ := (h.mem e.1 e.2).mp he
  have : hasI rows e.1 = true := by
    cases c : hasI rows e.1 with
    | true => rfl
    | false =>
      exfalso
      have : amt rows e.1 = 0 := by
        clear h he h1 h2 r
        induction rows with
        | nil => rfl
        | cons x rows ih =>
          have c : (decide (x.1 = e.1) || hasI rows e.1) = false := c
          rw [Bool.or_eq_false_iff] at c
          rw [amt_cons, if_neg (by simpa using c.1), ih c.2]; rfl
      omega
  obtain ⟨v, m⟩ := hasI_iff.mp this
  exact r (e.1, v) m
def S_init (C : Addr) : FSpec := fun ds h Q _ => ∃ (a : Addr) (rows : Prs), ds = [.ref a, .tup (rows.map pairD)] ∧ h a = some (.ins C []) ∧ InR rows ∧ rows.length ≤ 10000 ∧
  ∀ es, Led es (amt rows) → es.length ≤ rows.length → Q .non (up h a (.ins C [("amounts", .dK (toK es))]))
def wr_init (C : Addr) : WS := (wSeq (wAsg wDnew (gN 2))
  (wSeq (wFor (iNum (wCons (wVar 1) wNil)) (gT 2 (gsCons (gN 3) (gsCons (gN 4) gsNil))) (wSeq (wIfS (wNot (wTest (wCallP S_isRow 1 (fun ds _ => ds) (wCons (wVar 4) wNil)))) wNever wSkip)
  (wDput (wVar 2) (wOp dIx (wVar 4) (wC (.int 0))) (wOp (dAdd false) (wGet2 (wVar 2) (wOp dIx (wVar 4) (wC (.int 0))) (wC (.int 0))) (wOp dIx (wVar 4) (wC (.int 1)))))))
  (wSetF C "amounts" (wVar 0) (wDc false (iSeq (wB (dSortD false) (wCons (wVar 2) wNil))) (gN 5) (wTest (wOp (dEq fun b => !b) (wDGet (wVar 2) (wVar 5)) (wC (.int 0)))) (wVar 5) (wDGet (wVar 2) (wVar 5)) [5]))))
theorem big_size : 100000 ≤ sizeLine := by decide
theorem get_pairs {rows : Prs} {i : Nat} {y : D} (h : (rows.map pairD)[i]? = some y) : ∃ r, rows[i]? = some r ∧ y = pairD r ∧ i < rows.length := by
  rw [List.getElem?_map] at h
  cases e : rows[i]? with
  | none => rw [e] at h; cases h
  | some r => rw [e] at h; cases h; exact ⟨r, rfl, rfl, (List.getElem?_eq_some_iff.mp e).1⟩
theorem amt_take {rows : Prs} {i : Nat} {r : Int × Int} (h : rows[i]? = some r) {k : Int} : amt (rows.take (i + 1)) k = amt (rows.take i) k + if r.1 = k then r.2 else 0 := by
  rw [List.take_add_one, h, Option.toList_some, amt_append, amt_cons, amt_nil, Int.add_zero]
theorem pr_init (C : Addr) : ∀ ds h Q X, S_init C ds h Q X → wr_init C (endsD Q X) (startD 6 ds) h := by
  rintro ds h Q X ⟨a, rows, rfl, ha, hr, hl, q⟩
  show wr_init C (endsD Q X) [some (.ref a), some (.tup (rows.map pairD)), none, none, none, none] h
  have big := big_size
  unfold wr_init
  rw [u_seq]
  simp only [u_asg, u_gN, u_ret, u_retN, u_skip, u_expr, u_ifs, u_c, u_op, u_neg, u_test, u_and, u_or, u_not, u_if, u_nil, u_cons, u_tup, u_lst, u_callP, u_call, u_b, u_chain, u_andV, u_addI, u_subI, u_mulI, u_divI, u_modI, u_powI, u_cmpI, u_eqI, u_eqS, u_eqB, u_abs, u_intI, u_intB, u_newT, u_newF, u_isN, u_notN, wVar, List.set_cons_zero, List.set_cons_succ, List.getElem?_cons_zero, List.getElem?_cons_succ, List.length_cons, List.length_nil, u_lc, u_for, u_r1, u_r2, u_r3, u_num, u_notV, u_yes, u_w0, u_w1, u_dnew]
  intro p hp
  have pa : a ≠ p := by rintro rfl; rw [ha] at hp; cases hp
  rw [u_seq]
  simp only [u_asg, u_gN, u_ret, u_retN, u_skip, u_expr, u_ifs, u_c, u_op, u_neg, u_test, u_and, u_or, u_not, u_if, u_nil, u_cons, u_tup, u_lst, u_callP, u_call, u_b, u_chain, u_andV, u_addI, u_subI, u_mulI, u_divI, u_modI, u_powI, u_cmpI, u_eqI, u_eqS, u_eqB, u_abs, u_intI, u_intB, u_newT, u_newF, u_isN, u_notN, wVar, List.set_cons_zero, List.set_cons_succ, List.getElem?_cons_zero, List.getElem?_cons_succ, List.length_cons, List.length_nil, u_lc, u_for, u_r1, u_r2, u_r3, u_num, u_notV, u_yes, u_w0, u_w1]
  refine loop_go (fun i ρ h' => ∃ (es : Prs) (b c : Option D), ρ = [some (.ref a), some (.tup (rows.map pairD)), some (.ref p), b, c, none] ∧ h' = up h p (.dK (toK es)) ∧ (es.map (·.1)).Nodup ∧ (∀ k, getI es k = amt (rows.take i) k) ∧ es.length ≤ i) ⟨[], _, _, rfl, rfl, List.nodup_nil, fun k => rfl, Nat.le_refl _⟩ (fun _ _ _ _ => trivial) ?_ ?_
  · rintro i x _ _ K hi ⟨es, b, c, rfl, rfl, nd, hg, le⟩ k
    obtain ⟨y, hy, rfl⟩ := numD_get hi
    obtain ⟨r, hr1, rfl, li⟩ := get_pairs hy
    have rr := hr r (List.mem_of_getElem? hr1)
    refine ⟨_, rfl, rfl, _, _, rfl, _, _, rfl, rfl, ?_⟩
    simp only [u_asg, u_gN, u_ret, u_retN, u_skip, u_expr, u_ifs, u_c, u_op, u_neg, u_test, u_and, u_or, u_not, u_if, u_nil, u_cons, u_tup, u_lst, u_callP, u_call, u_b, u_chain, u_andV, u_addI, u_subI, u_mulI, u_divI, u_modI, u_powI, u_cmpI, u_eqI, u_eqS, u_eqB, u_abs, u_intI, u_intB, u_newT, u_newF, u_isN, u_notN, wVar, List.set_cons_zero, List.set_cons_succ, List.getElem?_cons_zero, List.getElem?_cons_succ, List.length_cons, List.length_nil, u_lc, u_for, u_r1, u_r2, u_r3, u_num, u_notV, u_yes, u_w0, u_w1]
    refine ⟨rfl, r, rfl, ?_⟩
    rw [decide_eq_true rr.1, decide_eq_true rr.2]
    simp only [Bool.and_self, Bool.not_true, Bool.false_eq_true, if_false, u_dput, u_get2, u_asg, u_gN, u_ret, u_retN, u_skip, u_expr, u_ifs, u_c, u_op, u_neg, u_test, u_and, u_or, u_not, u_if, u_nil, u_cons, u_tup, u_lst, u_callP, u_call, u_b, u_chain, u_andV, u_addI, u_subI, u_mulI, u_divI, u_modI, u_powI, u_cmpI, u_eqI, u_eqS, u_eqB, u_abs, u_intI, u_intB, u_newT, u_newF, u_isN, u_notN, wVar, List.set_cons_zero, List.set_cons_succ, List.getElem?_cons_zero, List.getElem?_cons_succ, List.length_cons, List.length_nil, u_lc, u_for, u_r1, u_r2, u_r3, u_num, u_notV, u_yes, u_w0, u_w1, ix_p0, ix_p1]
    refine ⟨by simp [dkOf], toK es, _, by simp [dkOf], rfl, ?_⟩
    rw [val_getD, u_addI]
    refine ⟨p, toK es, _, rfl, up_same, rfl, by rw [toK_len]; omega, ?_⟩
    rw [up_up, putD_toK]
    refine k _ _ ⟨_, _, _, rfl, rfl, nodup_put nd, fun j => ?_, Nat.le_trans len_put (by omega)⟩
    rw [getI_put, amt_take hr1]
    by_cases e : j = r.1
    · subst e; rw [if_pos rfl, if_pos rfl, hg]
    · rw [if_neg e, if_neg (fun z => e z.symm), hg, Int.add_zero]
  · rintro _ _ ⟨es, b, c, rfl, rfl, nd, hg, le⟩
    rw [numD_len, List.length_map] at hg le
    rw [List.take_length] at hg
    simp only [u_setF, u_dc, u_seqi, u_asg, u_gN, u_ret, u_retN, u_skip, u_expr, u_ifs, u_c, u_op, u_neg, u_test, u_and, u_or, u_not, u_if, u_nil, u_cons, u_tup, u_lst, u_callP, u_call, u_b, u_chain, u_andV, u_addI, u_subI, u_mulI, u_divI, u_modI, u_powI, u_cmpI, u_eqI, u_eqS, u_eqB, u_abs, u_intI, u_intB, u_newT, u_newF, u_isN, u_notN, wVar, List.set_cons_zero, List.set_cons_succ, List.getElem?_cons_zero, List.getElem?_cons_succ, List.length_cons, List.length_nil, u_lc, u_for, u_r1, u_r2, u_r3, u_num, u_notV, u_yes, u_w0, u_w1]
    refine ⟨.ref p, toK es, es.map (·.1), rfl, by simp [dkOf], toK_keys es, fun ys hp1 hp2 => ?_⟩
    rw [u_newF]
    intro p2 hp2'
    have ndy : ys.Nodup := hp1.nodup_iff.mpr nd
    have ly : ys.length = es.length := by rw [hp1.length_eq, List.length_map]
    have p2p : p2 ≠ p := by rintro rfl; simp at hp2'
    have hp2h : h p2 = none := by rw [up_ne p2p] at hp2'; exact hp2'
    refine dc_pure (pick0 (getI es)) (fun _ => trivial) (by rw [List.length_map]; omega) ?_ ?_
    · intro x acc K hx la k
      obtain ⟨y, hy, rfl⟩ := List.mem_map.mp hx
      have my : y ∈ es.map (·.1) := hp1.mem_iff.mp hy
      rw [u_gN]
      simp only [u_asg, u_gN, u_ret, u_retN, u_skip, u_expr, u_ifs, u_c, u_op, u_neg, u_test, u_and, u_or, u_not, u_if, u_nil, u_cons, u_tup, u_lst, u_callP, u_call, u_b, u_chain, u_andV, u_addI, u_subI, u_mulI, u_divI, u_modI, u_powI, u_cmpI, u_eqI, u_eqS, u_eqB, u_abs, u_intI, u_intB, u_newT, u_newF, u_isN, u_notN, wVar, List.set_cons_zero, List.set_cons_succ, List.getElem?_cons_zero, List.getElem?_cons_succ, List.length_cons, List.length_nil, u_lc, u_for, u_r1, u_r2, u_r3, u_num, u_notV, u_yes, u_w0, u_w1, u_dget]
      have gp : (up (up h p (.dK (toK es))) p2 (.dK acc)) p = some (.dK (toK es)) := by rw [up_ne p2p.symm]; exact up_same
      refine ⟨toK es, _, _, dk_ref gp, rfl, val_some my, ?_⟩
      rw [u_eqI]
      by_cases z : getI es y = 0
      · rw [decide_eq_true z]
        simp only [Bool.not_true, Bool.false_eq_true, if_false]
        have : dstep (pick0 (getI es)) acc (.int y) = acc := by unfold dstep pick0; simp only [z, ne_eq, not_true, if_false]
        rw [this] at k; exact k
      · rw [decide_eq_false z]
        simp only [Bool.not_false, if_true]
        refine ⟨toK es, _, _, dk_ref gp, rfl, val_some my, acc, _, rfl, up_same, la, ?_⟩
        rw [up_up]
        have : dstep (pick0 (getI es)) acc (.int y) = putD acc (Sum.inl y) (.int (getI es y)) := by unfold dstep pick0; simp only [ne_eq, z, not_false_eq_true, if_true]
        rw [this] at k; exact k
    · have e := fold_keyed (getI es) ys [] ndy (fun _ _ => rfl)
      have e : (ys.map D.int).foldl (dstep (pick0 (getI es))) [] = toK (keyed (getI es) ys) := e
      rw [e]
      refine endKF hp2' ?_
      refine ⟨a, [], rfl, by rw [up_ne pa]; exact ha, by decide, ?_⟩
      have led : Led (keyed (getI es) ys) (amt rows) := by
        have := keyed_led (A := getI es) hp2 ndy fun k hk => hp1.mem_iff.mpr (by
          cases c : hasI es k with
          | true => exact hasI_keys.mp c
          | false => exact absurd (getI_no c) hk)
        exact this.of_amt hg
      refine fin_sub (g := up h a (.ins C [("amounts", .dK (toK (keyed (getI es) ys)))])) (fun b o z => ?_) (q _ led (by have := keyed_len (A := getI es) (ys := ys); omega))
      by_cases c : b = a
      · subst c; rw [up_same] at z ⊢; exact z
      · rw [up_ne c] at z ⊢
        rw [up_ne (by rintro rfl; rw [hp] at z; cases z)]; exact z
theorem len_init (C : Addr) : ∀ ds h Q X, S_init C ds h Q X → ds.length = 2 := fun _ _ _ _ ⟨_, _, e, _⟩ => by rw [e]; rfl
theorem mo_init (C : Addr) : MoF (S_init C) := fun _ _ _ _ _ _ hq _ ⟨a, b, e, o1, o2, o3, q⟩ => ⟨a, b, e, o1, o2, o3, fun es h1 h2 => hq _ _ (q es h1 h2)⟩
def S_rows (C : Addr) : FSpec := fun ds h Q _ => ∃ es : Prs, ds = [ledD C es] ∧ Q (.tup (es.map pairD)) h
def wr_rows (C : Addr) : WS := (wRet (wTupIt (wFld C "amounts" (wVar 0))))
theorem pr_rows (C : Addr) : ∀ ds h Q X, S_rows C ds h Q X → wr_rows C (endsD Q X) (startD 1 ds) h := by
  rintro ds h Q X ⟨es, rfl, q⟩
  show wr_rows C (endsD Q X) [some (ledD C es)] h
  simp only [wr_rows, u_asg, u_gN, u_ret, u_retN, u_skip, u_expr, u_ifs, u_c, u_op, u_neg, u_test, u_and, u_or, u_not, u_if, u_nil, u_cons, u_tup, u_lst, u_callP, u_call, u_b, u_chain, u_andV, u_addI, u_subI, u_mulI, u_divI, u_modI, u_powI, u_cmpI, u_eqI, u_eqS, u_eqB, u_abs, u_intI, u_intB, u_newT, u_newF, u_isN, u_notN, wVar, List.set_cons_zero, List.set_cons_succ, List.getElem?_cons_zero, List.getElem?_cons_succ, List.length_cons, List.length_nil, u_lc, u_for, u_r1, u_r2, u_r3, u_num, u_notV, u_yes, u_w0, u_w1, u_tupIt, u_fld]
  refine ⟨_, _, rfl, rfl, _, rfl, ?_⟩
  rw [toK_kv]
  exact fin_of q
theorem len_rows (C : Addr) : ∀ ds h Q X, S_rows C ds h Q X → ds.length = 1 := fun _ _ _ _ ⟨_, e, _⟩ => by rw [e]; rfl
theorem mo_rows (C : Addr) : MoF (S_rows C) := fun _ _ _ _ _ _ hq _ ⟨a, e, q⟩ => ⟨a, e, hq _ _ q⟩
/-- a call C(*rows) or C(row, ..) -/
theorem make_led {C a : Addr} {rows : Prs} {h : AH} {P : KD} {X : KX} {ds : List D} (hd : ds = rows.map pairD) (ha : h a = none) (hr : InR rows) (hl : rows.length ≤ 10000) (q : ∀ es, Led es (amt rows) → InR es → es.length ≤ rows.length → P .non (up h a (.ins C [("amounts", .dK (toK es))]))) :
    starS 1 (S_init C) (.ref a :: ds) (up h a (.ins C [])) P X := by
  subst hd
  have big := big_size
  refine ⟨by simp, by simp; omega, a, rows, rfl, up_same, hr, hl, fun es h1 h2 => ?_⟩
  rw [up_up]
  exact q es h1 (h1.inR hr) h2
theorem made {C a : Addr} {fs : List (Str × D)} {h : AH} {R : List (Str × D) → AH → Prop} (ha : h a = none) (q : R fs h) : (D.non = .non ∧ ∃ gs, (up h a (.ins C fs)) a = some (.ins C gs) ∧ R gs (rm (up h a (.ins C fs)) a)) :=
  ⟨rfl, fs, up_same, by rw [rm_up, rm_none ha]; exact q⟩
def S_add (C : Addr) : FSpec := fun ds h Q _ => ∃ es fs : Prs, ds = [ledD C es, ledD C fs] ∧ InR es ∧ InR fs ∧ es.length + fs.length ≤ 10000 ∧ ∀ gs, Led gs (fun k => amt es k + amt fs k) → InR gs → gs.length ≤ es.length + fs.length → Q (ledD C gs) h
def wr_add (C : Addr) : WS := (wSeq (wAsg (wOp (dAdd false) (wProp C (S_rows C) (wVar 0)) (wProp C (S_rows C) (wVar 1))) (gN 2))
  (wRet (wMakeS C (starS 1 (S_init C)) (wVar 2))))
theorem pr_add (C : Addr) : ∀ ds h Q X, S_add C ds h Q X → wr_add C (endsD Q X) (startD 3 ds) h := by
  rintro ds h Q X ⟨es, fs, rfl, he, hf, hl, q⟩
  show wr_add C (endsD Q X) [some (ledD C es), some (ledD C fs), none] h
  have big := big_size
  unfold wr_add
  rw [u_seq]
  simp only [u_asg, u_gN, u_ret, u_retN, u_skip, u_expr, u_ifs, u_c, u_op, u_neg, u_test, u_and, u_or, u_not, u_if, u_nil, u_cons, u_tup, u_lst, u_callP, u_call, u_b, u_chain, u_andV, u_addI, u_subI, u_mulI, u_divI, u_modI, u_powI, u_cmpI, u_eqI, u_eqS, u_eqB, u_abs, u_intI, u_intB, u_newT, u_newF, u_isN, u_notN, wVar, List.set_cons_zero, List.set_cons_succ, List.getElem?_cons_zero, List.getElem?_cons_succ, List.length_cons, List.length_nil, u_lc, u_for, u_r1, u_r2, u_r3, u_num, u_notV, u_yes, u_w0, u_w1, u_prop, u_makeS]
  refine ⟨ledD_isI, es, rfl, ledD_isI, fs, rfl, ?_⟩
  refine ⟨by simp; omega, ?_⟩
  simp only [u_asg, u_gN, u_ret, u_retN, u_skip, u_expr, u_ifs, u_c, u_op, u_neg, u_test, u_and, u_or, u_not, u_if, u_nil, u_cons, u_tup, u_lst, u_callP, u_call, u_b, u_chain, u_andV, u_addI, u_subI, u_mulI, u_divI, u_modI, u_powI, u_cmpI, u_eqI, u_eqS, u_eqB, u_abs, u_intI, u_intB, u_newT, u_newF, u_isN, u_notN, wVar, List.set_cons_zero, List.set_cons_succ, List.getElem?_cons_zero, List.getElem?_cons_succ, List.length_cons, List.length_nil, u_lc, u_for, u_r1, u_r2, u_r3, u_num, u_notV, u_yes, u_w0, u_w1, u_makeS]
  refine ⟨_, rfl, fun a ha => ?_⟩
  refine make_led (rows := es ++ fs) (by rw [List.map_append]) ha (he.append hf) (by rw [List.length_append]; exact hl) fun gs h1 h2 h3 => ⟨rfl, _, up_same, ?_⟩
  rw [rm_up, rm_none ha]
  exact fin_of (q gs (h1.of_amt fun k => amt_append) h2 (by rw [List.length_append] at h3; exact h3))
theorem len_add (C : Addr) : ∀ ds h Q X, S_add C ds h Q X → ds.length = 2 := fun _ _ _ _ ⟨_, _, e, _⟩ => by rw [e]; rfl
theorem mo_add (C : Addr) : MoF (S_add C) := fun _ _ _ _ _ _ hq _ ⟨a, b, e, o1, o2, o3, q⟩ => ⟨a, b, e, o1, o2, o3, fun es h1 h2 h3 => hq _ _ (q es h1 h2 h3)⟩
/-- the sum over rows that a comprehension reckons -/
theorem sum_rows {st : AH → Prop} {vs : List Nat} {ρ : EnvD} {p : Addr} {es : Prs} {h : AH} {Q : AH → Prop} {i j k : Nat} (c : Int) (hst : ∀ acc, st (up h p (.lst acc))) (hl : es.length ≤ sizeLine) (hr : InR es) (hc : 0 < c)
    (hρ : ∀ a b : D, ∃ r, ((wipeD ρ vs).set i (some a)).set j (some b) = r ∧ r[i]? = some (some a) ∧ r[j]? = some (some b) ∧ r[k]? = some (some (.int c))) (q : Q (up h p (.lst ((es.map fun e => e.2 * (e.1 % c)).map D.int)))) :
    compD st (gT 2 (gsN [i, j])) wYes (wOp (dMul false) (wVar j) (wOp dMod (wVar i) (wVar k))) vs ρ p (es.map pairD) (up h p (.lst [])) Q := by
  refine comp_pure (fun x => match x with | .tup [.int a, .int b] => some (.int (b * (a % c))) | _ => none) hst (by rw [List.length_map]; exact hl) ?_ ?_
  · intro y acc K hy la kk
    obtain ⟨e, he, rfl⟩ := List.mem_map.mp hy
    obtain ⟨r, er, r1, r2, r3⟩ := hρ (.int e.1) (.int e.2)
    refine ⟨_, rfl, rfl, _, _, rfl, _, _, rfl, rfl, ?_⟩
    rw [er]
    show wOp (dMul false) (wVar j) (wOp dMod (wVar i) (wVar k)) r _ _ _
    rw [u_op, u_var r2, u_op, u_var r1, u_var r3, u_modI]
    have re := hr e he
    have b1 := Int.emod_nonneg e.1 (show c ≠ 0 by omega)
    have b2 : e.1 % c ≤ e.1 := by
      by_cases y : e.1 < c
      · rw [Int.emod_eq_of_lt re.1 y]; exact Int.le_refl _
      · have := Int.emod_lt_of_pos e.1 hc; omega
    exact ⟨hc, .inr (.inl (by omega)), acc, up_same, la, by rw [up_up]; exact kk⟩
  · have er : (es.map pairD).filterMap (fun x => match x with | .tup [.int a, .int b] => some (D.int (b * (a % c))) | _ => none) = (es.map fun p => p.2 * (p.1 % c)).map D.int := by
      rw [List.filterMap_map, List.map_map]
      exact List.filterMap_eq_map ▸ rfl
    rw [er]; exact q
def S_sumAt (C : Addr) : FSpec := fun ds h Q _ => ∃ (es : Prs) (c : Int), ds = [ledD C es, .int c] ∧ InR es ∧ es.length ≤ 10000 ∧ 0 < c ∧ Q (.int (lenAt es c)) h
def wr_sumAt (C : Addr) : WS := (wRet (wB dSum (wCons (wLc false (iTupD (wProp C (S_rows C) (wVar 0))) (gT 2 (gsN [2, 3])) wYes (wOp (dMul false) (wVar 3) (wOp dMod (wVar 2) (wVar 1))) [2, 3]) wNil)))
theorem pr_sumAt (C : Addr) : ∀ ds h Q X, S_sumAt C ds h Q X → wr_sumAt C (endsD Q X) (startD 4 ds) h := by
  rintro ds h Q X ⟨es, c, rfl, hr, hl, hc, q⟩
  show wr_sumAt C (endsD Q X) [some (ledD C es), some (.int c), none, none] h
  have big := big_size
  simp only [wr_sumAt, u_asg, u_gN, u_ret, u_retN, u_skip, u_expr, u_ifs, u_c, u_op, u_neg, u_test, u_and, u_or, u_not, u_if, u_nil, u_cons, u_tup, u_lst, u_callP, u_call, u_b, u_chain, u_andV, u_addI, u_subI, u_mulI, u_divI, u_modI, u_powI, u_cmpI, u_eqI, u_eqS, u_eqB, u_abs, u_intI, u_intB, u_newT, u_newF, u_isN, u_notN, wVar, List.set_cons_zero, List.set_cons_succ, List.getElem?_cons_zero, List.getElem?_cons_succ, List.length_cons, List.length_nil, u_lc, u_for, u_r1, u_r2, u_r3, u_num, u_notV, u_yes, u_w0, u_w1, u_tupi, u_prop]
  refine ⟨ledD_isI, es, rfl, ?_⟩
  simp only [u_asg, u_gN, u_ret, u_retN, u_skip, u_expr, u_ifs, u_c, u_op, u_neg, u_test, u_and, u_or, u_not, u_if, u_nil, u_cons, u_tup, u_lst, u_callP, u_call, u_b, u_chain, u_andV, u_addI, u_subI, u_mulI, u_divI, u_modI, u_powI, u_cmpI, u_eqI, u_eqS, u_eqB, u_abs, u_intI, u_intB, u_newT, u_newF, u_isN, u_notN, wVar, List.set_cons_zero, List.set_cons_succ, List.getElem?_cons_zero, List.getElem?_cons_succ, List.length_cons, List.length_nil, u_lc, u_for, u_r1, u_r2, u_r3, u_num, u_notV, u_yes, u_w0, u_w1]
  intro p hp
  refine sum_rows c (fun _ => trivial) (by omega) hr hc (fun a b => ⟨_, rfl, rfl, rfl, rfl⟩) ?_
  refine endF hp ⟨_, _, rfl, rfl, fin_of q⟩
theorem len_sumAt (C : Addr) : ∀ ds h Q X, S_sumAt C ds h Q X → ds.length = 2 := fun _ _ _ _ ⟨_, _, e, _⟩ => by rw [e]; rfl
theorem mo_sumAt (C : Addr) : MoF (S_sumAt C) := fun _ _ _ _ _ _ hq _ ⟨a, b, e, o1, o2, o3, q⟩ => ⟨a, b, e, o1, o2, o3, hq _ _ q⟩
def S_lcall (C : Addr) : FSpec := fun ds h Q _ => ∃ (es : Prs) (c : Int), ds = [ledD C es, .int c] ∧ InR es ∧ es.length ≤ 10000 ∧ 1 ≤ c ∧ c ≤ 10 ^ 30 ∧ Q (.int (lenAt es c)) h
def wr_lcall (C : Addr) : WS := (wSeq (wExpr (wCallP S_needCap 1 (fun ds _ => ds) (wCons (wVar 1) wNil)))
  (wRet (wMet C "sum_at" (S_sumAt C) (wVar 0) (wCons (wVar 1) wNil))))
theorem pr_lcall (C : Addr) : ∀ ds h Q X, S_lcall C ds h Q X → wr_lcall C (endsD Q X) (startD 2 ds) h := by
  rintro ds h Q X ⟨es, c, rfl, hr, hl, c1, c2, q⟩
  show wr_lcall C (endsD Q X) [some (ledD C es), some (.int c)] h
  unfold wr_lcall
  rw [u_seq]
  simp only [u_asg, u_gN, u_ret, u_retN, u_skip, u_expr, u_ifs, u_c, u_op, u_neg, u_test, u_and, u_or, u_not, u_if, u_nil, u_cons, u_tup, u_lst, u_callP, u_call, u_b, u_chain, u_andV, u_addI, u_subI, u_mulI, u_divI, u_modI, u_powI, u_cmpI, u_eqI, u_eqS, u_eqB, u_abs, u_intI, u_intB, u_newT, u_newF, u_isN, u_notN, wVar, List.set_cons_zero, List.set_cons_succ, List.getElem?_cons_zero, List.getElem?_cons_succ, List.length_cons, List.length_nil, u_lc, u_for, u_r1, u_r2, u_r3, u_num, u_notV, u_yes, u_w0, u_w1, u_met]
  refine ⟨trivial, c, rfl, c1, c2, ?_⟩
  simp only [u_asg, u_gN, u_ret, u_retN, u_skip, u_expr, u_ifs, u_c, u_op, u_neg, u_test, u_and, u_or, u_not, u_if, u_nil, u_cons, u_tup, u_lst, u_callP, u_call, u_b, u_chain, u_andV, u_addI, u_subI, u_mulI, u_divI, u_modI, u_powI, u_cmpI, u_eqI, u_eqS, u_eqB, u_abs, u_intI, u_intB, u_newT, u_newF, u_isN, u_notN, wVar, List.set_cons_zero, List.set_cons_succ, List.getElem?_cons_zero, List.getElem?_cons_succ, List.length_cons, List.length_nil, u_lc, u_for, u_r1, u_r2, u_r3, u_num, u_notV, u_yes, u_w0, u_w1, u_met]
  exact ⟨_, rfl, rfl, es, c, rfl, hr, hl, by omega, fin_of q⟩
theorem len_lcall (C : Addr) : ∀ ds h Q X, S_lcall C ds h Q X → ds.length = 2 := fun _ _ _ _ ⟨_, _, e, _⟩ => by rw [e]; rfl
theorem mo_lcall (C : Addr) : MoF (S_lcall C) := fun _ _ _ _ _ _ hq _ ⟨a, b, e, o1, o2, o3, o4, q⟩ => ⟨a, b, e, o1, o2, o3, o4, hq _ _ q⟩
/-! ### the laws' own way to a ledger -/
/-- a tuple, its object known or not -/
def IsT (d : D) (xs : List D) : Prop := d = .tup xs ∨ d = .tpl xs
theorem IsT.iter {d : D} {xs : List D} (t : IsT d xs) {ρ : EnvD} {h : AH} {X : KX} {i : Nat} {R : List D → (AH → Prop) → AH → Prop} (e : ρ[i]? = some (some d)) (k : R xs (fun _ => True) h) : iTupD (wVar i) ρ h R X := by
  rw [u_tupi, u_var e]
  rcases t with rfl | rfl
  · exact k
  · exact k
end DL
namespace DL
open PySem PySem.Spec L2 C8 PyProof.Rows
/-! ### tuple * int, up to 16,000,000 items -/
end DL
namespace DL
open PySem PySem.Spec L2 C8
/-! ### needs -/
/-! ### the defs -/
def S_grt (C : Addr) : FSpec := fun ds h Q _ => ∃ es : Prs, ds = [ledD C es] ∧ (es = [] → Q .non h) ∧ ∀ m, m ∈ es.map (·.1) → (∀ y ∈ es.map (·.1), y ≤ m) → Q (.int m) h
def wr_grt (C : Addr) : WS := (wRet (wMaxDd (wCons (wFld C "amounts" (wVar 0)) wNil) (wCons (wC .non) wNil)))
theorem pr_grt (C : Addr) : ∀ ds h Q X, S_grt C ds h Q X → wr_grt C (endsD Q X) (startD 1 ds) h := by
  rintro ds h Q X ⟨es, rfl, q0, q1⟩
  show wr_grt C (endsD Q X) [some (ledD C es)] h
  simp only [wr_grt, u_asg, u_gN, u_ret, u_retN, u_skip, u_expr, u_ifs, u_c, u_op, u_neg, u_test, u_and, u_or, u_not, u_if, u_nil, u_cons, u_tup, u_lst, u_callP, u_call, u_b, u_chain, u_andV, u_addI, u_subI, u_mulI, u_divI, u_modI, u_powI, u_cmpI, u_eqI, u_eqS, u_eqB, u_abs, u_intI, u_intB, u_newT, u_newF, u_isN, u_notN, wVar, List.set_cons_zero, List.set_cons_succ, List.getElem?_cons_zero, List.getElem?_cons_succ, List.length_cons, List.length_nil, u_lc, u_for, u_r1, u_r2, u_r3, u_num, u_notV, u_yes, u_w0, u_w1, u_dput, u_get2, u_dget, u_prop, u_fld, u_setF, u_make, u_makeS, u_met, u_calO, u_orT, u_tupIt, u_dc, u_maxDd, u_dnew, u_tupi, ix_p0, ix_p1, wSl, woNone, woSome]
  refine ⟨_, _, rfl, rfl, _, _, _, es.map (·.1), rfl, rfl, rfl, toK_keys es, fun e => fin_of (q0 (List.map_eq_nil_iff.mp e)), fun m h1 h2 => fin_of (q1 m h1 h2)⟩
theorem len_grt (C : Addr) : ∀ ds h Q X, S_grt C ds h Q X → ds.length = 1 := fun _ _ _ _ ⟨_, e, _⟩ => by rw [e]; rfl
theorem mo_grt (C : Addr) : MoF (S_grt C) := fun _ _ _ _ _ _ hq _ ⟨a, e, q0, q1⟩ => ⟨a, e, fun z => hq _ _ (q0 z), fun m h1 h2 => hq _ _ (q1 m h1 h2)⟩
/-! ### the laws' own needs -/
/-! ### bounds -/
end DL
namespace DL
open PySem PySem.Spec L2 C8 PyProof.Rows
/-! ### the truth of an instance, by its __len__ -/
section
variable {prog : Program} {w : World} {A : Around} {E : Value → Shared → Prop} {s : Shared} {K : PySem.W.Frag} {x C f : Addr} {ox : Obj} {odd : Option Obj}
theorem len_own {Q : Value → Shared → Prop} (X : K.In s.heap) (I : PySem.W.InstAt s.heap x ox C odd) (hs : PySem.W.findIn K (.ref C) "__len__" = some (some (.ref f))) (hf : PySem.W.isFn K (.ref f) = true)
    (h : wpAny (model prog w) A (call (.ref f) [.ref x]) (fun r s1 => ∃ (n : Nat) (t : Tok), r = Value.int n t ∧ n < 2 ^ 62 ∧ ∀ t tk, Q (.int n t) { s1 with toks := tk }) E s) :
    wpAny (model prog w) A (Builtin.«len» ⟨[.ref x], []⟩) (fun fin s' => ∃ r, fin = .done (.ret r) ∧ Q r s') E s := by
  unfold Builtin.«len»
  refine wpAny_bind (m := oneArg "len" _) (wpAny_pure ?_)
  refine wpAny_bind (m := callSpecial? (.ref x) (Str.ofString "__len__")) (PySem.W.special_fn X I hs (beq_iff_eq.mp hf) (wpAny_mono h (fun r s' hr => ?_) fun _ _ y => y))
  obtain ⟨n, u, rfl, hn, hq⟩ := hr
  refine wpAny_bind (wpAny_holding (wpAny_pure ?_))
  refine wpAny_bind (wpAny_letGo ?_)
  show wpAny _ _ (if ((n : Nat) : Int) < 0 then _ else _) _ _ _
  rw [if_neg (by omega)]
  show wpAny _ _ (if ((n : Nat) : Int) ≥ 2 ^ 63 then _ else _) _ _ _
  rw [if_neg (by omega)]
  exact wpAny_bind (wpAny_mkInt (wpAny_pure ⟨_, rfl, hq _ _⟩))
end
section
variable (P : Program) (w : World) (K : PySem.W.Frag) (mg : Str → Option Value) (base : Heap)
structure LenC (C : Addr) (k : Nat) (S : FSpec) : Prop where
  ex : ∃ g, PySem.W.findIn K (.ref C) "__bool__" = some none ∧ PySem.W.findIn K (.ref C) "__len__" = some (some (.ref g)) ∧ PySem.W.isFn K (.ref g) = true ∧ FnRD P w K mg base k g S
  mo : MoF S
end
end DL
namespace PL
open PySem PySem.Spec L2 C8 DL PK
/-! ### ledgers of programs, and their lengths -/
abbrev S_need_capacity (z : Ad) : FSpec := S_needCap
abbrev S_is_row (z : Ad) : FSpec := S_isRow
abbrev S_Ledger___init__ (z : Ad) : FSpec := S_init z.Ledger
abbrev S_Ledger_rows (z : Ad) : FSpec := S_rows z.Ledger
abbrev S_Ledger_greatest (z : Ad) : FSpec := S_grt z.Ledger
def S_Ledger___len__ (z : Ad) : FSpec := fun ds h Q _ => ∃ es : Prs, ds = [ledD z.Ledger es] ∧ Q (.int ((es.length : Nat) : Int)) h
abbrev S_Ledger___add__ (z : Ad) : FSpec := S_add z.Ledger
abbrev S_Ledger_sum_at (z : Ad) : FSpec := S_sumAt z.Ledger
abbrev S_Ledger___call__ (z : Ad) : FSpec := S_lcall z.Ledger
end PL
namespace DL
open PySem PySem.Spec L2
/-! ### for k in d, d locked by the walk itself -/
end DL
namespace DL
open PySem PySem.Spec L2 C8
/-! ### dicts that are walked: locked from then on -/
def dkR (h : AH) : D → Option (List (Key × D))
  | .dK xs => some xs
  | .ref a => match h a with
    | some (.dK xs) => some xs
    | some (.lckK _ xs) => some xs
    | _ => none
  | _ => none
section
variable {K : PySem.W.Frag} {F : Hp} {h : AH} {H : Hp} {d : D} {v : V}
theorem Sim.dkR {kvs : List (Key × D)} (S : Sim K F h H) (r : Rep K F d v) (e : DL.dkR h d = some kvs) : ∃ a vs, v = .ref a ∧ Rd H a (.dK vs) ∧ RepK K F kvs vs := by
  cases d with
  | dK xs =>
    obtain ⟨a, vs, e1, e2, e3⟩ := S.dkOf r (show DL.dkOf h (.dK xs) = some kvs from e)
    exact ⟨a, vs, e1, .inl e2, e3⟩
  | ref a =>
    cases q : h a with
    | none => simp [DL.dkR, q] at e
    | some o =>
      cases o with
      | dK xs =>
        obtain ⟨a', vs, e1, e2, e3⟩ := S.dkOf r (show DL.dkOf h (.ref a) = some kvs from by simpa [DL.dkR, DL.dkOf, q] using e)
        exact ⟨a', vs, e1, .inl e2, e3⟩
      | lckK ob xs =>
        have : xs = kvs := by simpa [DL.dkR, q] using e
        subst this
        cases r
        obtain ⟨_, u, hu, vs, rfl, rs⟩ := S.ob _ _ q
        exact ⟨a, vs, rfl, .inr ⟨ob, hu⟩, rs⟩
      | _ => simp [DL.dkR, q] at e
  | _ => cases e
end
end DL
namespace DL
open PySem PySem.Spec L2 C8
/-! ### dicts of ints compared; more of a class, bundled -/
/-- what a look at each key of the one in the other gives -/
inductive HitD (ls : List (Key × D)) : List (Key × D) → Bool → Prop
  | nil : HitD ls [] true
  | miss {k : Key} {d : D} {r : List (Key × D)} (h : valD ls k = none) : HitD ls ((k, d) :: r) false
  | hit {k : Key} {i j : Int} {r : List (Key × D)} {b : Bool} (h : valD ls k = some (.int j)) (t : HitD ls r b) : HitD ls ((k, .int i) :: r) (decide (i = j) && b)
inductive HitV (ls : List (Key × V)) : List (Key × V) → Bool → Prop
  | nil : HitV ls [] true
  | miss {k : Key} {d : V} {r : List (Key × V)} (h : valV ls k = none) : HitV ls ((k, d) :: r) false
  | hit {k : Key} {i j : Int} {r : List (Key × V)} {b : Bool} (h : valV ls k = some (.int j)) (t : HitV ls r b) : HitV ls ((k, .int i) :: r) (decide (i = j) && b)
theorem HitD.to {K : PySem.W.Frag} {F : Hp} {ls : List (Key × D)} {ms : List (Key × V)} (rl : RepK K F ls ms) : ∀ {ks : List (Key × D)} {b : Bool}, HitD ls ks b → ∀ {vs : List (Key × V)}, RepK K F ks vs → HitV ms vs b
  | _, _, .nil, _, .nil => .nil
  | _, _, .miss h, _, .cons r t => .miss (by
      rcases rl.val _ with ⟨_, e⟩ | ⟨d, v, e, _, _⟩
      · exact e
      · rw [h] at e; cases e)
  | _, _, .hit h u, _, .cons r t => by
      cases r
      refine .hit ?_ (HitD.to rl u t)
      rcases rl.val _ with ⟨e, _⟩ | ⟨d, v, e, e2, rr⟩
      · rw [h] at e; cases e
      · rw [h] at e; cases e; cases rr; exact e2
theorem HitV.run {A : Around} {s : Shared} {ms : List (Key × V)} {vb : List (Key × Value)} (rb : KV ms vb) : ∀ {vs : List (Key × V)} {b : Bool}, HitV ms vs b → ∀ {va : List (Key × Value)}, KV vs va → PySem.W.KeqHits A s vb va b := by
  intro vs b h
  induction h with
  | nil => intro va ra; unfold KV at ra; cases ra; exact .nil
  | @miss k d r h =>
    intro va ra
    unfold KV at ra
    cases ra with
    | @cons _ q _ qs h1 t =>
      obtain ⟨h1, h2⟩ := h1
      obtain ⟨k', v⟩ := q
      cases (show k = k' from h1)
      refine .miss ?_
      have rr := rb.val k
      rw [h] at rr
      cases e : valueAt vb k with
      | none => rfl
      | some y => rw [e] at rr; exact rr.elim
  | @hit k i j r b h _ ih =>
    intro va ra
    unfold KV at ra
    cases ra with
    | @cons _ q _ qs h1 t =>
      obtain ⟨h1, h2⟩ := h1
      obtain ⟨k', v⟩ := q
      cases (show k = k' from h1)
      obtain ⟨t1, rfl⟩ := (show ∃ t, v = .int i t from h2)
      have rr : RelO (some (.int j)) (valueAt vb k) := by rw [← h]; exact rb.val k
      obtain ⟨y, hy, ry⟩ := rr.some_of
      obtain ⟨t2, rfl⟩ := (show ∃ t, y = .int j t from ry)
      have e := SeqAt.EqAt.int_int (A := A) (s := s) i t1 j t2
      rw [show (i == j) = decide (i = j) from rfl] at e
      exact .hit hy e (ih t)
section
variable {X : Cx} {E : XK} {gz : Bool} {k : Nat} {a b : Expr} {wa wb : WE} {pos : Pos}
def rEqK (f : Bool → Bool) : R2 := fun x y H Q => ∃ a b ks ls r, x = .ref a ∧ y = .ref b ∧ Rd H a (.dK ks) ∧ Rd H b (.dK ls) ∧ HitV ls ks r ∧ Q (.bl (f (ks.length == ls.length && r))) H
theorem op_eqK (hu : X.A.units < cLine) : OpR X (compareOp .Eq) (rEqK fun b => b) := by
  intro pins s σ H x y v u Q I rx ry h
  obtain ⟨a, b, ks, ls, r, rfl, rfl, ea, eb, hp, q⟩ := h
  obtain rfl : v = Value.ref a := rx
  obtain rfl : u = Value.ref b := ry
  obtain ⟨_, ya, va, ra, da⟩ := (show ObjOk X.prog X.w H s.heap a (.dK ks) from rd_of I.hok ea)
  obtain ⟨_, yb, vb, rb, db⟩ := (show ObjOk X.prog X.w H s.heap b (.dK ls) from rd_of I.hok eb)
  refine PySem.W.keq_eq (knd := mixKind X.prog X.w) (r := r) ya yb da db hu (fun _ => hp.run rb ra) (fin_bl I q (by rw [ra.length, rb.length]))
def dEqK (f : Bool → Bool) (x y : D) (h : AH) (Q : KD) : Prop := ∃ ks ls r, dkR h x = some ks ∧ dkR h y = some ls ∧ HitD ls ks r ∧ Q (.bl (f (ks.length == ls.length && r))) h
theorem dEqK_ok {K : PySem.W.Frag} {f : Bool → Bool} : OpD K (rEqK f) (dEqK f) where
  to := by
    rintro F h H x y vx vy Q S0 rx ry ⟨ks, ls, r, e1, e2, hh, q⟩
    obtain ⟨a, vs, rfl, ha, r1⟩ := S0.dkR rx e1
    obtain ⟨b, ws, rfl, hb, r2⟩ := S0.dkR ry e2
    refine ⟨a, b, vs, ws, r, rfl, rfl, ha, hb, hh.to r2 r1, ?_⟩
    rw [← r1.length, ← r2.length]
    exact q.at S0 (.bl _)
  mo := fun hq ⟨ks, ls, r, a, b, c, q⟩ => ⟨ks, ls, r, a, b, c, hq _ _ q⟩
theorem ae_eqK (c : Cg gz X E k) (ha : AE X E a wa) (hb : AE X E b wb) : AE X E (.Compare a [.Eq] [b] pos) (wOp (dEqK fun b => b) wa wb) := ae_cmp dEqK_ok (op_eqK (by have := c.room.units; omega)) ha hb
end
section
variable (P : Program) (w : World) (K : PySem.W.Frag) (mg : Str → Option Value) (base : Heap)
structure NegC (C : Addr) (k : Nat) (S : FSpec) : Prop where
  ex : ∃ g, PySem.W.findIn K (.ref C) "__neg__" = some (some (.ref g)) ∧ PySem.W.isFn K (.ref g) = true ∧ FnRD P w K mg base k g S
  mo : MoF S
structure OpIC (C : Addr) (op : Operator) (k : Nat) (S : FSpec) : Prop where
  ex : ∃ g, OwnI K C g op ∧ FnRD P w K mg base k g S
  mo : MoF S
end
section
variable {X : Cx} {E : XK} {gz : Bool} {k j : Nat} {a b : Expr} {wa wb : WE} {pos : Pos} {C : Addr} {S : FSpec} {op : Operator}
theorem ag_negO (c : Cg gz X E k) (R : NegC X.prog X.w X.K X.mg X.base C j S) (hj : j ≤ k) (ha : AE X E a wa) : AE X E (.UnaryOp .USub a pos) (wNegO C S wa) := by
  obtain ⟨g, h1, h2, h3⟩ := R.ex
  exact ae_negO c h1 h2 h3 R.mo hj ha
theorem ag_ownI (c : Cg gz X E k) (R : OpIC X.prog X.w X.K X.mg X.base C op j S) (hj : j ≤ k) (ha : AE X E a wa) (hb : AE X E b wb) : AE X E (.BinOp a op b pos) (wOp (dOwnI C S) wa wb) := by
  obtain ⟨g, h1, h2⟩ := R.ex
  exact ae_ownI c h1 h2 R.mo hj ha hb
end
section
variable {ρ : EnvD} {h : AH} {Q : KD} {X : KX} {C : Addr} {S : FSpec} {x y : D} {a : WE}
theorem u_negO : wNegO C S a ρ h Q X = a ρ h (fun x h1 => isI C x h1 ∧ S [x] h1 Q (fun _ _ => False)) X := rfl
theorem u_ownI {i : Int} : dOwnI C S x (.int i) h Q = (isI C x h ∧ S [x, .int i] h Q (fun _ _ => False)) := by
  unfold dOwnI
  refine propext ⟨?_, fun q => ⟨i, rfl, q⟩⟩
  rintro ⟨j, e, q⟩
  cases e; exact q
end
end DL
namespace DL
open PySem PySem.Spec L2 C8 PyProof.Rows
/-! ### len(x) of an instance, by its __len__ -/
section
variable {X : Cx} {E : XK} {gz : Bool} {k j : Nat} {C : Addr} {S : FSpec}
def dLenO (C : Addr) (S : FSpec) (ds : List D) (h : AH) (Q : KD) : Prop := ∃ x, ds = [x] ∧ isI C x h ∧ S [x] h (fun d h2 => ∃ n : Nat, d = .int (n : Nat) ∧ n < 2 ^ 62 ∧ Q (.int (n : Nat)) h2) (fun _ _ => False)
theorem dLenO_ok (c : Cg gz X E k) (R : LenC X.prog X.w X.K X.mg X.base C j S) (hj : j + 1 ≤ k) : CaD X (.builtin "len") (dLenO C S) where
  ex := by
    obtain ⟨g, hb, hs, hf, G⟩ := R.ex
    refine ⟨fun vs H Q => ∃ a dx ws, vs = [V.ref a] ∧ H a = some (.ins C dx ws) ∧ spD X.K S [V.ref a] H (fun z H2 => ∃ n : Nat, z = .int (n : Nat) ∧ n < 2 ^ 62 ∧ Q (.int (n : Nat)) H2) L2.E0, ?_, ?_⟩
    · intro pins s σ H xs us Q I r h
      obtain ⟨a, dx, ws, rfl, hi, q1⟩ := h
      obtain ⟨u, rfl, ru⟩ := vals1 r
      obtain rfl : u = Value.ref a := ru
      obtain ⟨mA, J, _⟩ := ins_get I.hok hi
      obtain ⟨od, J, _⟩ := J.look
      refine Calls.call_function_entry kind_len plain_len entry_len (args_len1 _) ?_
      refine len_own I.kIn J hs hf (wpAny_mono (wpAny_call (SlX.run_at (us := [.ref a]) (ws := [.ref a]) G (Room.in1 (c.room.mono hj)) I.env0.in1 pass_no I (.cons rfl .nil) q1)) (fun w s' z => ?_) fun _ _ x => x)
      obtain ⟨z', H', I', rz, n, ei, hn, qz⟩ := z
      subst ei
      obtain ⟨t, e⟩ := (show ∃ t, w = Value.int n t from rz)
      cases e
      exact ⟨n, t, rfl, hn, fun t tk => ⟨.int (n : Nat), H', I'.tok _, ⟨_, rfl⟩, qz⟩⟩
    · rintro F h H ds vs Q S0 r ⟨x, rfl, ⟨fs, ei⟩, z⟩
      obtain ⟨v, rfl, r1⟩ := r.one
      obtain ⟨a, dx, ws, rfl, hi, _⟩ := S0.insOf r1 ei
      refine ⟨a, dx, ws, rfl, hi, F, _, h, S0, .cons r1 .nil, R.mo _ _ _ _ _ _ (fun d h2 z => ?_) (fun _ _ z => z.elim) z⟩
      obtain ⟨n, rfl, hn, z⟩ := z
      intro F2 H2 v e2 S2 rv
      cases rv
      exact ⟨n, rfl, hn, z F2 H2 _ e2 S2 (.int _)⟩
  mo := fun hq ⟨x, e, i, z⟩ => ⟨x, e, i, R.mo _ _ _ _ _ _ (fun d h2 ⟨n, e, l, z⟩ => ⟨n, e, l, hq _ _ z⟩) (fun _ _ z => z) z⟩
theorem u_lenO {x : D} {h : AH} {Q : KD} : dLenO C S [x] h Q = (isI C x h ∧ S [x] h (fun d h2 => ∃ n : Nat, d = .int (n : Nat) ∧ n < 2 ^ 62 ∧ Q (.int (n : Nat)) h2) (fun _ _ => False)) := by
  unfold dLenO
  refine propext ⟨?_, fun q => ⟨x, rfl, q⟩⟩
  rintro ⟨y, e, q⟩
  cases e; exact q
end
end DL
namespace DL
open PySem PySem.Spec L2 C8
/-! ### dict([..pairs..]), dict(d) -/
end DL
namespace DL
open PySem PySem.Spec L2 C8 PyProof.Rows
end DL
namespace PQ
open PySem PySem.Spec L2 C8 DL PK PL
/-! ### ledgers taken off one another; the least capacity -/
def mulP (n : Int) (es : Prs) : Prs := es.map fun e => (e.1, e.2 * n)
def S_Ledger___mul__ (z : Ad) : FSpec := fun ds h Q _ => ∃ (es : Prs) (n : Int), ds = [ledD z.Ledger es, .int n] ∧ InR es ∧ es.length ≤ 10000 ∧ -(2 ^ 64) < n ∧ n < 2 ^ 64 ∧
  ∀ gs, Led gs (fun k => amt es k * n) → InR gs → gs.length ≤ es.length → Q (ledD z.Ledger gs) h
def S_Ledger___neg__ (z : Ad) : FSpec := fun ds h Q _ => ∃ es : Prs, ds = [ledD z.Ledger es] ∧ InR es ∧ es.length ≤ 10000 ∧
  ∀ gs, Led gs (fun k => -amt es k) → InR gs → gs.length ≤ es.length → Q (ledD z.Ledger gs) h
def S_Ledger___sub__ (z : Ad) : FSpec := fun ds h Q _ => ∃ es fs : Prs, ds = [ledD z.Ledger es, ledD z.Ledger fs] ∧ InR es ∧ InR fs ∧ es.length + fs.length ≤ 10000 ∧
  ∀ gs, Led gs (fun k => amt es k - amt fs k) → InR gs → gs.length ≤ es.length + fs.length → Q (ledD z.Ledger gs) h
/-- how much more the one prints than the other -/
def gapL (w v : Int) (gs fs : Prs) (c : Int) : Int := w - v + (lenAt gs c - lenAt fs c)
/-- the least capacity at which they part -/
def IsLeast (w v : Int) (gs fs : Prs) (d : D) : Prop := (w = v ∧ gs = fs ∧ d = .non) ∨
  ∃ c : Nat, 1 ≤ c ∧ c ≤ 1000001 ∧ d = .int (c : Nat) ∧ gapL w v gs fs c ≠ 0 ∧ ∀ r : Nat, 1 ≤ r → r < c → gapL w v gs fs r = 0
end PQ
namespace PQ
open PySem PySem.Spec L2 C8 DL PK PL
/-! ### the readings -/
def w_Ledger___neg__ (z : Ad) : WS := (wRet (wOp (dOwnI z.Ledger (S_Ledger___mul__ z)) (wVar 0) (wNeg (wC (.int 1)))))
def w_Ledger___sub__ (z : Ad) : WS := (wRet (wOp (dOwn2 z.Ledger (PL.S_Ledger___add__ z)) (wVar 0) (wNegO z.Ledger (S_Ledger___neg__ z) (wVar 1))))
def w_Ledger___mul__ (z : Ad) : WS := (wSeq (wAsg (wLc false (iTupD (wProp z.Ledger (PL.S_Ledger_rows z) (wVar 0))) (gT 2 (gsN [3, 4])) wYes (wTup (wCons (wVar 3) (wCons (wOp (dMul false) (wVar 4) (wVar 1)) wNil))) [3, 4]) (gN 2))
  (wRet (wMakeS z.Ledger (starS 1 (PL.S_Ledger___init__ z)) (wVar 2))))
end PQ
namespace PL
open PySem PySem.Spec L2 C8 DL PK
/-! ### the readings -/
def w_need_capacity (z : Ad) : WS := (wIfS (wNot (wTest (wCallP (PK.S_is_between z) 3 (fun ds _ => ds) (wCons (wVar 0) (wCons (wC (.int 1)) (wCons (wC (.int 1000000000000000000000000000000)) wNil)))))) wNever wSkip)
def w_is_row (z : Ad) : WS := (wSeq (wIfS (wOr (wNot (wTest (wB dIsi (wCons (wVar 0) (wCons (wC (.ty "tuple")) wNil))))) (wTest (wOp (dEq fun b => !b) (wB dLen (wCons (wVar 0) wNil)) (wC (.int 2))))) (wRet (wC (.bl false))) wSkip)
  (wRet (wAndV (wCallP (PK.S_is_between z) 3 (fun ds _ => ds) (wCons (wOp dIx (wVar 0) (wC (.int 0))) (wCons (wC (.int 0)) (wCons (wC (.int 1000000)) wNil)))) (wCallP (PK.S_is_integer z) 1 (fun ds _ => ds) (wCons (wOp dIx (wVar 0) (wC (.int 1))) wNil)))))
def w_Ledger___init__ (z : Ad) : WS := (wSeq (wAsg wDnew (gN 2))
  (wSeq (wFor (iNum (wCons (wVar 1) wNil)) (gT 2 (gsCons (gN 3) (gsCons (gN 4) gsNil))) (wSeq (wIfS (wNot (wTest (wCallP (S_is_row z) 1 (fun ds _ => ds) (wCons (wVar 4) wNil)))) wNever wSkip)
  (wDput (wVar 2) (wOp dIx (wVar 4) (wC (.int 0))) (wOp (dAdd false) (wGet2 (wVar 2) (wOp dIx (wVar 4) (wC (.int 0))) (wC (.int 0))) (wOp dIx (wVar 4) (wC (.int 1)))))))
  (wSetF z.Ledger "amounts" (wVar 0) (wDc false (iSeq (wB (dSortD false) (wCons (wVar 2) wNil))) (gN 5) (wTest (wOp (dEq fun b => !b) (wDGet (wVar 2) (wVar 5)) (wC (.int 0)))) (wVar 5) (wDGet (wVar 2) (wVar 5)) [5]))))
def w_Ledger_rows (z : Ad) : WS := (wRet (wTupIt (wFld z.Ledger "amounts" (wVar 0))))
def w_Ledger_greatest (z : Ad) : WS := (wRet (wMaxDd (wCons (wFld z.Ledger "amounts" (wVar 0)) wNil) (wCons (wC .non) wNil)))
def w_Ledger___len__ (z : Ad) : WS := (wRet (wB dLen (wCons (wFld z.Ledger "amounts" (wVar 0)) wNil)))
def w_Ledger___add__ (z : Ad) : WS := (wSeq (wAsg (wOp (dAdd false) (wProp z.Ledger (S_Ledger_rows z) (wVar 0)) (wProp z.Ledger (S_Ledger_rows z) (wVar 1))) (gN 2))
  (wRet (wMakeS z.Ledger (starS 1 (S_Ledger___init__ z)) (wVar 2))))
def w_Ledger_sum_at (z : Ad) : WS := (wRet (wB dSum (wCons (wLc false (iTupD (wProp z.Ledger (S_Ledger_rows z) (wVar 0))) (gT 2 (gsN [2, 3])) wYes (wOp (dMul false) (wVar 3) (wOp dMod (wVar 2) (wVar 1))) [2, 3]) wNil)))
def w_Ledger___call__ (z : Ad) : WS := (wSeq (wExpr (wCallP (S_need_capacity z) 1 (fun ds _ => ds) (wCons (wVar 1) wNil)))
  (wRet (wMet z.Ledger "sum_at" (S_Ledger_sum_at z) (wVar 0) (wCons (wVar 1) wNil))))
end PL
namespace PL
open PySem PySem.Spec L2 C8 DL PK
theorem p_need_capacity (z : Ad) : ∀ ds h Q X, S_need_capacity z ds h Q X → w_need_capacity z (endsD Q X) (startD 1 ds) h := pr_needCap
theorem len_need_capacity (z : Ad) : ∀ ds h Q X, S_need_capacity z ds h Q X → ds.length = 1 := len_needCap
theorem mo_need_capacity (z : Ad) : MoF (S_need_capacity z) := mo_needCap
theorem p_is_row (z : Ad) : ∀ ds h Q X, S_is_row z ds h Q X → w_is_row z (endsD Q X) (startD 1 ds) h := pr_isRow
theorem len_is_row (z : Ad) : ∀ ds h Q X, S_is_row z ds h Q X → ds.length = 1 := len_isRow
theorem mo_is_row (z : Ad) : MoF (S_is_row z) := mo_isRow
theorem p_Ledger___init__ (z : Ad) : ∀ ds h Q X, S_Ledger___init__ z ds h Q X → w_Ledger___init__ z (endsD Q X) (startD 6 ds) h := pr_init z.Ledger
theorem len_Ledger___init__ (z : Ad) : ∀ ds h Q X, S_Ledger___init__ z ds h Q X → ds.length = 2 := len_init z.Ledger
theorem mo_Ledger___init__ (z : Ad) : MoF (S_Ledger___init__ z) := mo_init z.Ledger
theorem p_Ledger_rows (z : Ad) : ∀ ds h Q X, S_Ledger_rows z ds h Q X → w_Ledger_rows z (endsD Q X) (startD 1 ds) h := pr_rows z.Ledger
theorem len_Ledger_rows (z : Ad) : ∀ ds h Q X, S_Ledger_rows z ds h Q X → ds.length = 1 := len_rows z.Ledger
theorem mo_Ledger_rows (z : Ad) : MoF (S_Ledger_rows z) := mo_rows z.Ledger
theorem p_Ledger_greatest (z : Ad) : ∀ ds h Q X, S_Ledger_greatest z ds h Q X → w_Ledger_greatest z (endsD Q X) (startD 1 ds) h := pr_grt z.Ledger
theorem len_Ledger_greatest (z : Ad) : ∀ ds h Q X, S_Ledger_greatest z ds h Q X → ds.length = 1 := len_grt z.Ledger
theorem mo_Ledger_greatest (z : Ad) : MoF (S_Ledger_greatest z) := mo_grt z.Ledger
theorem p_Ledger___add__ (z : Ad) : ∀ ds h Q X, S_Ledger___add__ z ds h Q X → w_Ledger___add__ z (endsD Q X) (startD 3 ds) h := pr_add z.Ledger
theorem len_Ledger___add__ (z : Ad) : ∀ ds h Q X, S_Ledger___add__ z ds h Q X → ds.length = 2 := len_add z.Ledger
theorem mo_Ledger___add__ (z : Ad) : MoF (S_Ledger___add__ z) := mo_add z.Ledger
theorem p_Ledger_sum_at (z : Ad) : ∀ ds h Q X, S_Ledger_sum_at z ds h Q X → w_Ledger_sum_at z (endsD Q X) (startD 4 ds) h := pr_sumAt z.Ledger
theorem len_Ledger_sum_at (z : Ad) : ∀ ds h Q X, S_Ledger_sum_at z ds h Q X → ds.length = 2 := len_sumAt z.Ledger
theorem mo_Ledger_sum_at (z : Ad) : MoF (S_Ledger_sum_at z) := mo_sumAt z.Ledger
theorem p_Ledger___call__ (z : Ad) : ∀ ds h Q X, S_Ledger___call__ z ds h Q X → w_Ledger___call__ z (endsD Q X) (startD 2 ds) h := pr_lcall z.Ledger
theorem len_Ledger___call__ (z : Ad) : ∀ ds h Q X, S_Ledger___call__ z ds h Q X → ds.length = 2 := len_lcall z.Ledger
theorem mo_Ledger___call__ (z : Ad) : MoF (S_Ledger___call__ z) := mo_lcall z.Ledger
theorem len_Ledger___len__ (z : Ad) : ∀ ds h Q X, S_Ledger___len__ z ds h Q X → ds.length = 1 := fun _ _ _ _ ⟨_, e, _⟩ => by rw [e]; rfl
theorem mo_Ledger___len__ (z : Ad) : MoF (S_Ledger___len__ z) := fun _ _ _ _ _ _ hq _ ⟨a, e, q⟩ => ⟨a, e, hq _ _ q⟩
end PL
namespace PL
open PySem PySem.Spec L2 C8 DL PK
theorem p_Ledger___len__ (z : Ad) : ∀ ds h Q X, S_Ledger___len__ z ds h Q X → w_Ledger___len__ z (endsD Q X) (startD 1 ds) h := by
  rintro ds h Q X ⟨es, rfl, q⟩
  show w_Ledger___len__ z (endsD Q X) [some (ledD z.Ledger es)] h
  unfold w_Ledger___len__
  try simp only [u_fld, u_asg, u_gN, u_ret, u_retN, u_skip, u_expr, u_ifs, u_c, u_op, u_neg, u_test, u_and, u_or, u_not, u_if, u_nil, u_cons, u_tup, u_lst, u_callP, u_call, u_b, u_chain, u_andV, u_addI, u_subI, u_mulI, u_divI, u_modI, u_powI, u_cmpI, u_eqI, u_eqS, u_eqB, u_abs, u_intI, u_intB, u_newT, u_newF, u_isN, u_notN, wVar, List.set_cons_zero, List.set_cons_succ, List.getElem?_cons_zero, List.getElem?_cons_succ, List.length_cons, List.length_nil, u_lc, u_for, u_r1, u_r2, u_r3, u_num, u_notV, u_yes, u_w0, u_w1, u_dput, u_get2, u_dget, u_prop, u_fld, u_setF, u_make, u_makeS, u_met, u_calO, u_orT, u_tupIt, u_dc, u_maxDd, u_dnew, u_tupi, ix_p0, ix_p1, wSl, woNone, woSome]
  refine ⟨_, _, rfl, rfl, ?_⟩
  have e : (toK es).length = es.length := toK_len es
  rw [← e] at q
  exact ⟨_, rfl, fin_of q⟩
end PL
namespace PQ
open PySem PySem.Spec L2 C8 DL PK PL
theorem len_Ledger___mul__ (z : Ad) : ∀ ds h Q X, S_Ledger___mul__ z ds h Q X → ds.length = 2 := fun _ _ _ _ ⟨_, _, e, _⟩ => by rw [e]; rfl
theorem mo_Ledger___mul__ (z : Ad) : MoF (S_Ledger___mul__ z) := fun _ _ _ _ _ _ hq _ ⟨a, b, e, o1, o2, o3, o4, q⟩ => ⟨a, b, e, o1, o2, o3, o4, fun gs h1 h2 h3 => hq _ _ (q gs h1 h2 h3)⟩
theorem len_Ledger___neg__ (z : Ad) : ∀ ds h Q X, S_Ledger___neg__ z ds h Q X → ds.length = 1 := fun _ _ _ _ ⟨_, e, _⟩ => by rw [e]; rfl
theorem mo_Ledger___neg__ (z : Ad) : MoF (S_Ledger___neg__ z) := fun _ _ _ _ _ _ hq _ ⟨a, e, o1, o2, q⟩ => ⟨a, e, o1, o2, fun gs h1 h2 h3 => hq _ _ (q gs h1 h2 h3)⟩
theorem len_Ledger___sub__ (z : Ad) : ∀ ds h Q X, S_Ledger___sub__ z ds h Q X → ds.length = 2 := fun _ _ _ _ ⟨_, _, e, _⟩ => by rw [e]; rfl
theorem mo_Ledger___sub__ (z : Ad) : MoF (S_Ledger___sub__ z) := fun _ _ _ _ _ _ hq _ ⟨a, b, e, o1, o2, o3, q⟩ => ⟨a, b, e, o1, o2, o3, fun gs h1 h2 h3 => hq _ _ (q gs h1 h2 h3)⟩
/-! ### sums over a ledger, by its amounts -/
theorem amt_mul {n k : Int} : ∀ {es : Prs}, amt (mulP n es) k = amt es k * n
  | [] => by show (0 : Int) = 0 * n; omega
  | e :: es => by
    show amt ((e.1, e.2 * n) :: mulP n es) k = _
    rw [amt_cons, amt_cons, amt_mul, Int.add_mul]
    congr 1
    by_cases c : e.1 = k
    · rw [if_pos c, if_pos c]
    · rw [if_neg c, if_neg c, Int.zero_mul]
theorem mul_inr {n : Int} {es : Prs} (h : InR es) : InR (mulP n es) := fun e he => by
  obtain ⟨f, hf, rfl⟩ := List.mem_map.mp he
  exact h f hf
def rsum (f : Nat → Int) (n : Nat) : Int := ((List.range n).map f).sum
theorem rsum_succ {f : Nat → Int} {n : Nat} : rsum f (n + 1) = rsum f n + f n := by
  unfold rsum
  rw [List.range_succ, List.map_append, List.sum_append]
  simp
theorem rsum_add {f g : Nat → Int} : ∀ n : Nat, rsum (fun k => f k + g k) n = rsum f n + rsum g n
  | 0 => rfl
  | n + 1 => by rw [rsum_succ, rsum_succ, rsum_succ, rsum_add n]; omega
theorem rsum_zero {f : Nat → Int} : ∀ n : Nat, (∀ k, k < n → f k = 0) → rsum f n = 0
  | 0, _ => rfl
  | n + 1, h => by rw [rsum_succ, rsum_zero n fun k hk => h k (by omega), h n (by omega)]; rfl
theorem rsum_one {j : Nat} {v : Int} {f : Nat → Int} : ∀ n : Nat, j < n → rsum (fun k => (if ((j : Nat) : Int) = ((k : Nat) : Int) then v else 0) * f k) n = v * f j
  | 0, h => absurd h (by omega)
  | n + 1, h => by
    rw [rsum_succ]
    by_cases c : j = n
    · subst c
      rw [rsum_zero j fun k hk => by rw [if_neg (by omega), Int.zero_mul], if_pos rfl]; omega
    · rw [rsum_one n (by omega), if_neg (by omega)]; omega
theorem rsum_congr {f g : Nat → Int} {n : Nat} (h : ∀ k, k < n → f k = g k) : rsum f n = rsum g n := by
  unfold rsum
  congr 1
  exact List.map_congr_left fun k hk => h k (List.mem_range.mp hk)
/-- a length is a sum over the offsets -/
theorem len_amt {c : Int} : ∀ {es : Prs}, InR es → lenAt es c = rsum (fun k => amt es (k : Nat) * (((k : Nat) : Int) % c)) 1000001
  | [], _ => by rw [rsum_zero _ fun k _ => by rw [amt_nil, Int.zero_mul]]; rfl
  | e :: es, h => by
    have r := h e (List.mem_cons_self ..)
    obtain ⟨j, hj⟩ := Int.eq_ofNat_of_zero_le r.1
    show e.2 * (e.1 % c) + lenAt es c = _
    rw [len_amt (fun x hx => h x (List.mem_cons_of_mem _ hx))]
    have key : rsum (fun k => amt (e :: es) (k : Nat) * (((k : Nat) : Int) % c)) 1000001 = rsum (fun k => (if ((j : Nat) : Int) = ((k : Nat) : Int) then e.2 else 0) * (((k : Nat) : Int) % c) + amt es (k : Nat) * (((k : Nat) : Int) % c)) 1000001 :=
      rsum_congr fun k _ => by rw [amt_cons, Int.add_mul, hj]
    rw [key, rsum_add, rsum_one (f := fun k => ((k : Nat) : Int) % c) _ (by omega), hj]
theorem len_far {es : Prs} {c : Int} (h : ∀ e ∈ es, 0 ≤ e.1 ∧ e.1 < c) : lenAt es c = (es.map fun e => e.2 * e.1).sum := by
  unfold lenAt
  congr 1
  exact List.map_congr_left fun e he => by rw [Int.emod_eq_of_lt (h e he).1 (h e he).2]
theorem gap_same {w v : Int} {gs fs : Prs} {c : Int} (h : w = v ∧ gs = fs) : gapL w v gs fs c = 0 := by
  obtain ⟨rfl, rfl⟩ := h
  unfold gapL; omega
theorem IsLeast.one {w v : Int} {gs fs : Prs} {d d' : D} (a : IsLeast w v gs fs d) (b : IsLeast w v gs fs d') : d = d' := by
  rcases a with ⟨e1, e2, rfl⟩ | ⟨c, c1, _, rfl, cn, cm⟩
  · rcases b with ⟨_, _, rfl⟩ | ⟨c', c1', _, rfl, cn', cm'⟩
    · rfl
    · exact absurd (gap_same ⟨e1, e2⟩) cn'
  · rcases b with ⟨e1, e2, rfl⟩ | ⟨c', c1', _, rfl, cn', cm'⟩
    · exact absurd (gap_same ⟨e1, e2⟩) cn
    · have : c = c' := by
        by_cases l : c < c'
        · exact absurd (cm' c c1 l) cn
        · by_cases l' : c' < c
          · exact absurd (cm c' c1' l') cn'
          · omega
      rw [this]
end PQ
namespace PK
open PySem PySem.Spec L2 C8 DL
/-! ### the offsets of notes are within the reach -/
theorem noteB_app (lm : Bool) : ∀ (b c : List Ac) (i : Nat) (s : WSt), noteB lm i (b ++ c) s = noteB lm i b s ++ noteB lm (i + sizB b) c (folS lm b s)
  | [], c, i, s => by rw [List.nil_append, noteB, folS, sizB]; rfl
  | a :: r, c, i, s => by rw [List.cons_append, noteB, noteB, noteB_app lm r c, folS, sizB, List.append_assoc, Nat.add_assoc]
theorem folS_app (lm : Bool) : ∀ (b c : List Ac) (s : WSt), folS lm (b ++ c) s = folS lm c (folS lm b s)
  | [], c, s => by rw [List.nil_append, folS]
  | a :: r, c, s => by rw [List.cons_append, folS, folS, folS_app lm r c]
def OffB (lm : Bool) (l : List Ac) (R N : Nat) : Prop := ∀ (i : Nat) (s : WSt), (∀ x ∈ noteB lm i l s, x.off ≤ s.2.1 + R) ∧ (folS lm l s).2.1 ≤ s.2.1 + N
theorem OffB.mono {lm : Bool} {l : List Ac} {R N R2 : Nat} (h : OffB lm l R N) (e : R ≤ R2) : OffB lm l R2 N := fun i s => ⟨fun x hx => by have := (h i s).1 x hx; omega, (h i s).2⟩
theorem OffB.nil {lm : Bool} : OffB lm [] 0 0 := fun i s => ⟨fun x hx => (by rw [noteB] at hx; cases hx), (by rw [folS]; omega)⟩
theorem OffB.app {lm : Bool} {b c : List Ac} {R N R2 N2 : Nat} (h1 : OffB lm b R N) (h2 : OffB lm c R2 N2) : OffB lm (b ++ c) (max R (N + R2)) (N + N2) := fun i s => by
  obtain ⟨a1, a2⟩ := h1 i s
  obtain ⟨b1, b2⟩ := h2 (i + sizB b) (folS lm b s)
  refine ⟨fun x hx => ?_, ?_⟩
  · rw [noteB_app] at hx
    rcases List.mem_append.mp hx with hx | hx
    · have := a1 x hx; omega
    · have := b1 x hx; omega
  · rw [folS_app]; omega
theorem OffB.rep {lm : Bool} {b : List Ac} {R N : Nat} (h : OffB lm b R N) (l : N ≤ R) : ∀ n : Nat, OffB lm (List.replicate n b).flatten (if n = 0 then 0 else (n - 1) * N + R) (n * N)
  | 0 => by rw [if_pos rfl, Nat.zero_mul]; exact OffB.nil
  | n + 1 => by
    rw [List.replicate_succ, List.flatten_cons, if_neg (by omega), Nat.add_sub_cancel, Nat.succ_mul, Nat.add_comm (n * N) N]
    refine (h.app (OffB.rep h l n)).mono ?_
    by_cases z : n = 0
    · subst z; rw [if_pos rfl]; omega
    · rw [if_neg z]
      obtain ⟨k, rfl⟩ : ∃ k, n = k + 1 := ⟨n - 1, by omega⟩
      rw [Nat.add_sub_cancel, Nat.succ_mul]; omega
end PK
namespace PK
open PySem PySem.Spec L2 C8 DL
/-! ### how great the numbers of a walk grow: by the number of points -/
end PK
/-! x == y and x != y by a written __eq__ -/
namespace DL
open PySem PySem.Spec L2 C8 PyProof.Rows
section
variable {X : Cx} {E : XK} {gz : Bool} {k j : Nat} {a b : Expr} {wa wb : WE} {pos : Pos} {C g : Addr} {S : FSpec}
/-- x == y or x != y, both instances of C with a written __eq__ -/
def rOwnC (C : Addr) (f : Bool → Bool) (sp : Sp) : R2 := fun x y H Q => ∃ a dx fs b dy gs, x = .ref a ∧ y = .ref b ∧ H a = some (.ins C dx fs) ∧ H b = some (.ins C dy gs) ∧ sp [x, y] H (fun v H' => ∃ t, v = .bl t ∧ Q (.bl (f t)) H') L2.E0
theorem op_ownEq (hs : PySem.W.findIn X.K (.ref C) "__eq__" = some (some (.ref g))) (hf : PySem.W.isFn X.K (.ref g) = true) (G : FnRD X.prog X.w X.K X.mg X.base j g S) (hr : Room j X.A) :
    OpR X (compareOp .Eq) (rOwnC C (fun b => b) fun vs H Q E => spD X.K S vs H Q E) := by
  intro pins s σ H x y v u Q I rx ry h
  obtain ⟨p, dx, fs, q, dy, gs, rfl, rfl, hp, hq, z⟩ := h
  cases (show v = Value.ref p from rx)
  cases (show u = Value.ref q from ry)
  obtain ⟨ox, od, J⟩ := ins_at I hp
  obtain ⟨oy, ody, J'⟩ := ins_at I hq
  obtain ⟨mm, hF⟩ := I.fr
  show wpAny (model X.prog X.w) X.A (richCompare .Eq _ _) (EP X pins σ Q) X.xe s
  refine PySem.W.cmp_K (op := .Eq) (tb := .ref C) hr.units0 hF I.ok.mod.kin J J'.type (by simp [PySem.W.notFirst]) hs hf (wpAny_mono (wpAny_call (run_fnR (us := [.ref p, .ref q]) (vs := [.ref p, .ref q]) G hr pass_no I (.cons rfl (.cons rfl .nil)) z)) (fun w s' z => ?_) fun _ _ x => x)
  obtain ⟨z', H', I', rz, t, et, qz⟩ := z
  subst et
  cases rz
  exact ⟨.bl t, H', I', rfl, qz⟩
def dOwnC (C : Addr) (S : FSpec) (f : Bool → Bool) (x y : D) (h : AH) (Q : KD) : Prop := isI C x h ∧ isI C y h ∧ S [x, y] h (fun d h' => ∃ t, d = .bl t ∧ Q (.bl (f t)) h') (fun _ _ => False)
theorem dOwnC_ok {K : PySem.W.Frag} {f : Bool → Bool} (mo : MoF S) : OpD K (rOwnC C f fun vs H Q E => spD K S vs H Q E) (dOwnC C S f) where
  to := by
    rintro F h H x y vx vy Q S0 rx ry ⟨⟨fs, ex⟩, ⟨gs, ey⟩, q⟩
    obtain ⟨p, dx, us, rfl, hp, _⟩ := S0.insOf rx ex
    obtain ⟨r, dy, ws, rfl, hq, _⟩ := S0.insOf ry ey
    refine ⟨p, dx, us, r, dy, ws, rfl, rfl, hp, hq, F, _, h, S0, .cons rx (.cons ry .nil), mo _ _ _ _ _ _ (fun d h' z => ?_) (fun _ _ z => z.elim) q⟩
    obtain ⟨t, rfl, z⟩ := z
    intro F1 H1 v e1 S1 r1
    cases r1
    exact ⟨t, rfl, z F1 H1 _ e1 S1 (.bl _)⟩
  mo := fun hq ⟨a, b, q⟩ => ⟨a, b, mo _ _ _ _ _ _ (fun _ _ ⟨t, e, z⟩ => ⟨t, e, hq _ _ z⟩) (fun _ _ z => z) q⟩
end
section
variable (P : Program) (w : World) (K : PySem.W.Frag) (mg : Str → Option Value) (base : Heap)
structure EqC (C : Addr) (k : Nat) (S : FSpec) : Prop where
  ex : ∃ g, PySem.W.findIn K (.ref C) "__eq__" = some (some (.ref g)) ∧ PySem.W.isFn K (.ref g) = true ∧ PySem.W.mroIn K C (.type "object") = some true ∧ PySem.W.findIn K (.ref C) "__ne__" = some (some (.builtin "object.__ne__")) ∧ FnRD P w K mg base k g S
  mo : MoF S
end
section
variable {h : AH} {Q : KD} {C : Addr} {S : FSpec} {x y : D} {f : Bool → Bool}
theorem u_ownC : dOwnC C S f x y h Q = (isI C x h ∧ isI C y h ∧ S [x, y] h (fun d h' => ∃ t, d = .bl t ∧ Q (.bl (f t)) h') (fun _ _ => False)) := rfl
end
end DL
/-! methods called by keywords; methods whose last parameter has a default -/
namespace DL
open PySem PySem.Spec L2 C8
section
variable {X : Cx} {E : XK} {gz gy : Bool} {k j : Nat} {o e : Expr} {es : List Expr} {kws : List Keyword} {wo : WE} {wl wk : WA} {pos apos : Pos} {m : Str} {C f : Addr} {S : FSpec} {fd : FuncData} {ps ks : List Str} {gg : List D → List D → List D}
/-- o.m(k = e) -/
def wMetK (C : Addr) (m : Str) (S : FSpec) (l : Nat) (gg : List D → List D → List D) (wo : WE) (wk : WA) : WE := fun ρ h Q X => wo ρ h (fun x h1 => ∃ fs, insOf h1 x = some (C, fs) ∧ fs.lookup m = none ∧ wk ρ h1 (fun zs h2 => zs.length = l ∧ S (gg [x] zs) h2 Q X) X) X
theorem ae_metK {pl : Sem Bool} {l : Nat} (c : Cg gz X E k) (cc : Cls X.K C) (hm : Meth X.K C m f) (G : FnG gy X.prog X.w X.K X.mg X.base j f fd ps S) (B : Bnd X.K fd ps 1 ks gg) (hj : j ≤ k) (hz : gy = true → gz = true) (ho : AE X E o wo) (hkw : AK X E kws wk) (hl : ks.length = l := by rfl)
    (hall : (backToKw pos (keywordEach kws X.env)).all (·.1.isSome) = true := by rfl) (hks : (backToKw pos (keywordEach kws X.env)).filterMap (·.1) = ks := by rfl)
    (hpl : ((backTo pos (starEach [] X.env)).any (·.1) || (backToKw pos (keywordEach kws X.env)).any (·.1.isNone)) = false := by rfl)
    (ht : eval (.Call (.Attribute o m apos) [] kws pos) X.env = (do let ov ← eval o X.env; standAt apos.atName; let (f, first) ← holding [ov] (getMethod ov m pl); callWith pos f first (backTo pos (starEach [] X.env)) (backToKw pos (keywordEach kws X.env))) := by rfl) : AE X E (.Call (.Attribute o m apos) [] kws pos) (wMetK C m S l gg wo wk) := by
  refine ⟨⟨fun pins s σ H Q I hq => ?_⟩, fun ρ h Q Q' X X' hq hx q => ho.mo _ _ _ _ _ _ (fun x h1 ⟨fs, e1, e2, z⟩ => ⟨fs, e1, e2, hkw.mo _ _ _ _ _ _ (fun zs h2 z => ⟨z.1, G.mo _ _ _ _ _ _ hq hx z.2⟩) hx z⟩) hx q⟩
  obtain ⟨F, ρ, h, S0, R, q⟩ := hq
  refine PySem.W.methodCall_KW (pl := pl) (thn (ho.run.run pins s σ H (fun v H1 => ∃ F1 h1 x fs, Ext F F1 ∧ Sim X.K F1 h1 H1 ∧ Rep X.K F1 x v ∧ insOf h1 x = some (C, fs) ∧ fs.lookup m = none ∧ wk ρ h1 (fun zs h2 => zs.length = l ∧ S (gg [x] zs) h2 (LQ X.K F1 Q) (LX X.K F1 E)) (LX X.K F1 E)) I
    ⟨F, ρ, h, S0, R, ho.mo _ _ _ _ _ _ (fun x h1 z F1 H1 v e1 S1 r => ?_) (fun _ _ z => z) q⟩) fun u s1 hh => ?_) ht
  · obtain ⟨fs, ei, el, z⟩ := z
    exact ⟨F1, h1, x, fs, e1, S1, r, ei, el, hkw.mo _ _ _ _ _ _ (fun zs h2 z => ⟨z.1, G.mo _ _ _ _ _ _ (fun _ _ z => LQ.ext e1 z) (fun _ _ z => LX.ext e1 z) z.2⟩) (fun _ _ z => LX.ext e1 z) z⟩
  obtain ⟨v, H1, I1, rv, F1, h1, x, fs, e1, S1, r, ei, el, z⟩ := hh
  obtain ⟨a, dx, vs, rfl, ha, rf⟩ := S1.insOf r ei
  obtain rfl : u = Value.ref a := rv
  refine getmeth_ok I1 ha cc hm (rf.no el) ?_
  refine PySem.W.callWith_KW0 (first := [.ref a]) (h₀ := X.base) I.ok.mod.kin hm.kp hall
    (thn (hkw.run.run pos pins s1 σ H1 (fun ys H2 => ∃ F2 h2 zs, Ext F1 F2 ∧ Sim X.K F2 h2 H2 ∧ Reps X.K F2 zs ys ∧ zs.length = l ∧ S (gg [x] zs) h2 (LQ X.K F2 Q) (LX X.K F2 E)) I1
      ⟨F1, ρ, h1, S1, R.ext e1, hkw.mo _ _ _ _ _ _ (fun zs h2 q2 F2 H2 ys e2 S2 rz => ⟨F2, h2, zs, e2, S2, rz, q2.1, G.mo _ _ _ _ _ _ (fun _ _ z => LQ.ext e2 z) (fun _ _ z => LX.ext e2 z) q2.2⟩) (fun _ _ z => z) z⟩) fun ws s2 hh => ?_) hpl
  obtain ⟨ys, H2, I2, r2, F2, h2, zs, e2, S2, rz, l2, q2⟩ := hh
  refine ⟨I2.kIn, ?_⟩
  rw [hks]
  obtain ⟨xs, ts, rx, rt, bt⟩ := B.to s2 F2 [x] zs [V.ref a] ys [Value.ref a] ws I2.kIn rfl (l2.trans hl.symm) (.cons (r.ext e2) .nil) (.cons rfl .nil) rz r2
  exact wpAny_call (codeAny_mono (run_g (c.mono hj) G hz I2 bt rt ⟨F2, _, h2, S2, rx, q2⟩) fun r s' hr => by
    match r, hr with
    | .error _, hr => exact hr
    | .ok (.ret _), hr => exact hr)
end
/-! ### a default behind the parameters that are written -/
section
variable {X : Cx} {E : XK} {gz : Bool} {k j : Nat} {a b e : Expr} {wa wb we : WE} {pos : Pos} {C : Addr} {S : FSpec}
theorem ag_ownEqT (c : Cg gz X E k) (R : EqC X.prog X.w X.K X.mg X.base C j S) (hj : j + 1 ≤ k) (ha : AE X E a wa) (hb : AE X E b wb) (hm : behindInMarks .Eq b = false := by first | exact nobehind _ (by decide) (by decide) | rfl) : AT X E (.Compare a [.Eq] [b] pos) (wTest (wOp (dOwnC C S fun b => b) wa wb)) := by
  obtain ⟨g, h1, h2, h3, h4, h5⟩ := R.ex
  exact at_cmp (dOwnC_ok R.mo) (op_ownEq h1 h2 (h5.mono (Nat.le_trans (Nat.le_succ _) hj)) c.room) ha hb hm
end
section
variable (P : Program) (w : World) (K : PySem.W.Frag) (mg : Str → Option Value) (base : Heap)
/-- a method called by keywords -/
structure MetKC (C : Addr) (m : Str) (k : Nat) (ks : List Str) (gg : List D → List D → List D) (S : FSpec) : Prop where
  cl : Cls K C
  ex : ∃ f fd ps, Meth K C m f ∧ FnG false P w K mg base k f fd ps S ∧ Bnd K fd ps 1 ks gg
end
section
variable {X : Cx} {E : XK} {gz : Bool} {k j : Nat} {o : Expr} {kws : List Keyword} {wo : WE} {wk : WA} {pos apos : Pos} {m : Str} {C : Addr} {S : FSpec} {ks : List Str} {gg : List D → List D → List D}
theorem ag_metK {pl : Sem Bool} {l : Nat} (c : Cg gz X E k) (R : MetKC X.prog X.w X.K X.mg X.base C m j ks gg S) (hj : j ≤ k) (ho : AE X E o wo) (hkw : AK X E kws wk) (hl : ks.length = l := by rfl)
    (hall : (backToKw pos (keywordEach kws X.env)).all (·.1.isSome) = true := by rfl) (hks : (backToKw pos (keywordEach kws X.env)).filterMap (·.1) = ks := by rfl)
    (hpl : ((backTo pos (starEach [] X.env)).any (·.1) || (backToKw pos (keywordEach kws X.env)).any (·.1.isNone)) = false := by rfl)
    (ht : eval (.Call (.Attribute o m apos) [] kws pos) X.env = (do let ov ← eval o X.env; standAt apos.atName; let (f, first) ← holding [ov] (getMethod ov m pl); callWith pos f first (backTo pos (starEach [] X.env)) (backToKw pos (keywordEach kws X.env))) := by rfl) : AE X E (.Call (.Attribute o m apos) [] kws pos) (wMetK C m S l gg wo wk) := by
  obtain ⟨f, fd, ps, h1, h2, h3⟩ := R.ex
  exact ae_metK (pl := pl) c R.cl h1 h2 h3 hj (fun z => Bool.noConfusion z) ho hkw hl hall hks hpl ht
end
section
variable {ρ : EnvD} {h : AH} {Q : KD} {X : KX} {C : Addr} {m : Str} {S : FSpec} {l n : Nat} {gg : List D → List D → List D} {wo : WE} {wk : WA} {ds : List D}
theorem u_metK : wMetK C m S l gg wo wk ρ h Q X = wo ρ h (fun x h1 => ∃ fs, insOf h1 x = some (C, fs) ∧ fs.lookup m = none ∧ wk ρ h1 (fun zs h2 => zs.length = l ∧ S (gg [x] zs) h2 Q X) X) X := rfl
end
/-! ### cls(e, ..) -/
end DL
namespace PN
open PySem PySem.Spec L2 C8 DL PK PL PQ
/-! ### kinds of programs, ledgers moved -/
def S_Ledger_moved (z : Ad) : FSpec := fun ds h Q _ => ∃ (es : Prs) (b : Int), ds = [ledD z.Ledger es, .int b] ∧ 0 ≤ b ∧ (∀ e ∈ es, 0 ≤ e.1 ∧ e.1 + b ≤ 1000000) ∧ es.length ≤ 10000 ∧
  ∀ gs, Led gs (fun k => amt es (k - b)) → InR gs → gs.length ≤ es.length → Q (ledD z.Ledger gs) h
def S_Ledger___eq__ (z : Ad) : FSpec := fun ds h Q _ => ∃ es fs : Prs, ds = [ledD z.Ledger es, ledD z.Ledger fs] ∧ Std es ∧ Std fs ∧ Q (.bl (decide (es = fs))) h
end PN
namespace PN
open PySem PySem.Spec L2 C8 DL PK PL PQ
/-! ### the readings -/
def w_Ledger_moved (z : Ad) : WS := (wSeq (wIfS (wAnd (wTest (wOp (dCmpI fun i j => decide (j < i)) (wB (dLenO z.Ledger (PL.S_Ledger___len__ z)) (wCons (wVar 0) wNil)) (wC (.int 0)))) (wTest (wOp (dCmpI fun i j => decide (j < i)) (wOp (dAdd false) (wProp z.Ledger (PL.S_Ledger_greatest z) (wVar 0)) (wVar 1)) (wC (.int 1000000))))) wNever wSkip)
  (wSeq (wAsg (wLc false (iTupD (wProp z.Ledger (PL.S_Ledger_rows z) (wVar 0))) (gT 2 (gsN [3, 4])) wYes (wTup (wCons (wOp (dAdd false) (wVar 3) (wVar 1)) (wCons (wVar 4) wNil))) [3, 4]) (gN 2))
  (wRet (wMakeS z.Ledger (starS 1 (PL.S_Ledger___init__ z)) (wVar 2)))))
def w_Ledger___eq__ (z : Ad) : WS := (wRet (wAndV (wB (dIsiO z.Ledger) (wCons (wVar 1) (wCons (wC (.ref z.Ledger)) wNil))) (wOp (dEqK fun b => b) (wFld z.Ledger "amounts" (wVar 0)) (wFld z.Ledger "amounts" (wVar 1)))))
end PN
namespace PQ
open PySem PySem.Spec L2 C8 DL PK PL
theorem p_Ledger___mul__ (z : Ad) : ∀ ds h Q X, S_Ledger___mul__ z ds h Q X → w_Ledger___mul__ z (endsD Q X) (startD 5 ds) h := by
  rintro ds h Q X ⟨es, n, rfl, hr, hl, n0, n1, q⟩
  show w_Ledger___mul__ z (endsD Q X) [some (ledD z.Ledger es), some (.int n), none, none, none] h
  have big := DL.big_size
  unfold w_Ledger___mul__
  rw [u_seq]
  simp only [u_asg, u_gN, u_ret, u_retN, u_skip, u_expr, u_ifs, u_c, u_op, u_neg, u_test, u_and, u_or, u_not, u_if, u_nil, u_cons, u_tup, u_lst, u_callP, u_call, u_b, u_chain, u_andV, u_addI, u_subI, u_mulI, u_divI, u_modI, u_powI, u_cmpI, u_eqI, u_eqS, u_eqB, u_abs, u_intI, u_intB, u_newT, u_newF, u_isN, u_notN, wVar, List.set_cons_zero, List.set_cons_succ, List.getElem?_cons_zero, List.getElem?_cons_succ, List.length_cons, List.length_nil, u_lc, u_for, u_r1, u_r2, u_r3, u_num, u_notV, u_yes, u_w0, u_w1, u_tupi, u_prop]
  refine ⟨ledD_isI, es, rfl, ?_⟩
  try dsimp only
  intro p hp
  refine comp_pure (fun x => match x with | .tup [.int a, .int b] => some (.tup [.int a, .int (b * n)]) | _ => none) (fun _ => trivial) (by rw [List.length_map]; omega) ?_ ?_
  · intro y acc K hy la kk
    obtain ⟨e, he, rfl⟩ := List.mem_map.mp hy
    refine ⟨_, rfl, rfl, _, _, rfl, _, _, rfl, rfl, ?_⟩
    try simp only [u_asg, u_gN, u_ret, u_retN, u_skip, u_expr, u_ifs, u_c, u_op, u_neg, u_test, u_and, u_or, u_not, u_if, u_nil, u_cons, u_tup, u_lst, u_callP, u_call, u_b, u_chain, u_andV, u_addI, u_subI, u_mulI, u_divI, u_modI, u_powI, u_cmpI, u_eqI, u_eqS, u_eqB, u_abs, u_intI, u_intB, u_newT, u_newF, u_isN, u_notN, wVar, List.set_cons_zero, List.set_cons_succ, List.getElem?_cons_zero, List.getElem?_cons_succ, List.length_cons, List.length_nil, u_lc, u_for, u_r1, u_r2, u_r3, u_num, u_notV, u_yes, u_w0, u_w1, u_dput, u_get2, u_dget, u_prop, u_fld, u_setF, u_make, u_makeS, u_met, u_calO, u_orT, u_tupIt, u_dc, u_maxDd, u_dnew, u_tupi, ix_p0, ix_p1, wSl, woNone, woSome]
    refine ⟨.inr (.inl ⟨n0, n1⟩), by decide, acc, up_same, la, by rw [up_up]; exact kk⟩
  · have er : (es.map pairD).filterMap (fun x => match x with | .tup [.int a, .int b] => some (D.tup [.int a, .int (b * n)]) | _ => none) = (mulP n es).map pairD := by
      unfold mulP
      rw [List.filterMap_map, List.map_map]
      exact List.filterMap_eq_map ▸ rfl
    rw [er]
    refine endF hp ?_
    simp only [u_asg, u_gN, u_ret, u_retN, u_skip, u_expr, u_ifs, u_c, u_op, u_neg, u_test, u_and, u_or, u_not, u_if, u_nil, u_cons, u_tup, u_lst, u_callP, u_call, u_b, u_chain, u_andV, u_addI, u_subI, u_mulI, u_divI, u_modI, u_powI, u_cmpI, u_eqI, u_eqS, u_eqB, u_abs, u_intI, u_intB, u_newT, u_newF, u_isN, u_notN, wVar, List.set_cons_zero, List.set_cons_succ, List.getElem?_cons_zero, List.getElem?_cons_succ, List.length_cons, List.length_nil, u_lc, u_for, u_r1, u_r2, u_r3, u_num, u_notV, u_yes, u_w0, u_w1, u_makeS]
    refine ⟨_, rfl, fun a ha => ?_⟩
    refine make_led (rows := mulP n es) rfl ha (mul_inr hr) (by unfold mulP; rw [List.length_map]; exact hl) fun gs h1 h2 h3 => ⟨rfl, _, up_same, ?_⟩
    rw [rm_up, rm_none ha]
    exact fin_of (q gs (h1.of_amt fun k => amt_mul) h2 (by unfold mulP at h3; rw [List.length_map] at h3; exact h3))
theorem p_Ledger___neg__ (z : Ad) : ∀ ds h Q X, S_Ledger___neg__ z ds h Q X → w_Ledger___neg__ z (endsD Q X) (startD 1 ds) h := by
  rintro ds h Q X ⟨es, rfl, hr, hl, q⟩
  show w_Ledger___neg__ z (endsD Q X) [some (ledD z.Ledger es)] h
  unfold w_Ledger___neg__
  simp only [u_asg, u_gN, u_ret, u_retN, u_skip, u_expr, u_ifs, u_c, u_op, u_neg, u_test, u_and, u_or, u_not, u_if, u_nil, u_cons, u_tup, u_lst, u_callP, u_call, u_b, u_chain, u_andV, u_addI, u_subI, u_mulI, u_divI, u_modI, u_powI, u_cmpI, u_eqI, u_eqS, u_eqB, u_abs, u_intI, u_intB, u_newT, u_newF, u_isN, u_notN, wVar, List.set_cons_zero, List.set_cons_succ, List.getElem?_cons_zero, List.getElem?_cons_succ, List.length_cons, List.length_nil, u_lc, u_for, u_r1, u_r2, u_r3, u_num, u_notV, u_yes, u_w0, u_w1, u_ownI]
  refine ⟨ledD_isI, es, -1, rfl, hr, hl, by decide, by decide, fun gs h1 h2 h3 => ?_⟩
  exact fin_of (q gs (h1.of_amt fun k => by omega) h2 h3)
theorem p_Ledger___sub__ (z : Ad) : ∀ ds h Q X, S_Ledger___sub__ z ds h Q X → w_Ledger___sub__ z (endsD Q X) (startD 2 ds) h := by
  rintro ds h Q X ⟨es, fs, rfl, he, hf, hl, q⟩
  show w_Ledger___sub__ z (endsD Q X) [some (ledD z.Ledger es), some (ledD z.Ledger fs)] h
  unfold w_Ledger___sub__
  simp only [u_asg, u_gN, u_ret, u_retN, u_skip, u_expr, u_ifs, u_c, u_op, u_neg, u_test, u_and, u_or, u_not, u_if, u_nil, u_cons, u_tup, u_lst, u_callP, u_call, u_b, u_chain, u_andV, u_addI, u_subI, u_mulI, u_divI, u_modI, u_powI, u_cmpI, u_eqI, u_eqS, u_eqB, u_abs, u_intI, u_intB, u_newT, u_newF, u_isN, u_notN, wVar, List.set_cons_zero, List.set_cons_succ, List.getElem?_cons_zero, List.getElem?_cons_succ, List.length_cons, List.length_nil, u_lc, u_for, u_r1, u_r2, u_r3, u_num, u_notV, u_yes, u_w0, u_w1, u_negO, u_own2]
  refine ⟨ledD_isI, fs, rfl, hf, by omega, fun ns h1 h2 h3 => ?_⟩
  refine ⟨ledD_isI, ledD_isI, es, ns, rfl, he, h2, by omega, fun gs g1 g2 g3 => ?_⟩
  exact fin_of (q gs (g1.of_amt fun k => by rw [h1.eqA]; show amt es k + -amt fs k = _; omega) g2 (by omega))
end PQ
namespace PN
open PySem PySem.Spec L2 C8 DL PK PL PQ
theorem len_Ledger_moved (z : Ad) : ∀ ds h Q X, S_Ledger_moved z ds h Q X → ds.length = 2 := fun _ _ _ _ ⟨_, _, e, _⟩ => by rw [e]; rfl
theorem mo_Ledger_moved (z : Ad) : MoF (S_Ledger_moved z) := fun _ _ _ _ _ _ hq _ ⟨a, b, e, o1, o2, o3, q⟩ => ⟨a, b, e, o1, o2, o3, fun gs h1 h2 h3 => hq _ _ (q gs h1 h2 h3)⟩
theorem len_Ledger___eq__ (z : Ad) : ∀ ds h Q X, S_Ledger___eq__ z ds h Q X → ds.length = 2 := fun _ _ _ _ ⟨_, _, e, _⟩ => by rw [e]; rfl
theorem mo_Ledger___eq__ (z : Ad) : MoF (S_Ledger___eq__ z) := fun _ _ _ _ _ _ hq _ ⟨a, b, e, o1, o2, q⟩ => ⟨a, b, e, o1, o2, hq _ _ q⟩
/-! ### rows moved, rows above 0 -/
def movP (b : Int) (es : Prs) : Prs := es.map fun e => (e.1 + b, e.2)
theorem amt_mov {b k : Int} : ∀ {es : Prs}, amt (movP b es) k = amt es (k - b)
  | [] => rfl
  | e :: es => by
    show amt ((e.1 + b, e.2) :: movP b es) k = _
    rw [amt_cons, amt_cons, amt_mov]
    by_cases c : e.1 = k - b
    · rw [if_pos c, if_pos (show e.1 + b = k by omega)]
    · rw [if_neg c, if_neg (show ¬e.1 + b = k by omega)]
theorem p_Ledger_moved (z : Ad) : ∀ ds h Q X, S_Ledger_moved z ds h Q X → w_Ledger_moved z (endsD Q X) (startD 5 ds) h := by
  rintro ds h Q X ⟨es, b, rfl, b0, hr, hl, q⟩
  show w_Ledger_moved z (endsD Q X) [some (ledD z.Ledger es), some (.int b), none, none, none] h
  have big := DL.big_size
  unfold w_Ledger_moved
  refine seq_go (fun ρ h' => ρ = [some (ledD z.Ledger es), some (.int b), none, none, none] ∧ h' = h) (fun K k => ?_) ?_
  · have k := k _ _ ⟨rfl, rfl⟩
    simp only [u_asg, u_gN, u_ret, u_retN, u_skip, u_expr, u_ifs, u_c, u_op, u_neg, u_test, u_and, u_or, u_not, u_if, u_nil, u_cons, u_tup, u_lst, u_callP, u_call, u_b, u_chain, u_andV, u_addI, u_subI, u_mulI, u_divI, u_modI, u_powI, u_cmpI, u_eqI, u_eqS, u_eqB, u_abs, u_intI, u_intB, u_newT, u_newF, u_isN, u_notN, wVar, List.set_cons_zero, List.set_cons_succ, List.getElem?_cons_zero, List.getElem?_cons_succ, List.length_cons, List.length_nil, u_lc, u_for, u_r1, u_r2, u_r3, u_num, u_notV, u_yes, u_w0, u_w1, u_dput, u_get2, u_dget, u_prop, u_fld, u_setF, u_make, u_makeS, u_met, u_calO, u_orT, u_tupIt, u_dc, u_maxDd, u_dnew, u_tupi, ix_p0, ix_p1, wSl, woNone, woSome]
    rw [u_lenO]
    refine ⟨ledD_isI, es, rfl, es.length, rfl, by omega, ?_⟩
    try simp only [u_asg, u_gN, u_ret, u_retN, u_skip, u_expr, u_ifs, u_c, u_op, u_neg, u_test, u_and, u_or, u_not, u_if, u_nil, u_cons, u_tup, u_lst, u_callP, u_call, u_b, u_chain, u_andV, u_addI, u_subI, u_mulI, u_divI, u_modI, u_powI, u_cmpI, u_eqI, u_eqS, u_eqB, u_abs, u_intI, u_intB, u_newT, u_newF, u_isN, u_notN, wVar, List.set_cons_zero, List.set_cons_succ, List.getElem?_cons_zero, List.getElem?_cons_succ, List.length_cons, List.length_nil, u_lc, u_for, u_r1, u_r2, u_r3, u_num, u_notV, u_yes, u_w0, u_w1, u_dput, u_get2, u_dget, u_prop, u_fld, u_setF, u_make, u_makeS, u_met, u_calO, u_orT, u_tupIt, u_dc, u_maxDd, u_dnew, u_tupi, ix_p0, ix_p1, wSl, woNone, woSome]
    by_cases c : (0 : Int) < (es.length : Nat)
    · rw [if_pos (decide_eq_true c)]
      refine ⟨ledD_isI, es, rfl, fun e => by rw [e] at c; exact absurd c (by decide), fun m hm _ => ?_⟩
      obtain ⟨e, he, rfl⟩ := List.mem_map.mp hm
      have := hr e he
      try simp only [u_asg, u_gN, u_ret, u_retN, u_skip, u_expr, u_ifs, u_c, u_op, u_neg, u_test, u_and, u_or, u_not, u_if, u_nil, u_cons, u_tup, u_lst, u_callP, u_call, u_b, u_chain, u_andV, u_addI, u_subI, u_mulI, u_divI, u_modI, u_powI, u_cmpI, u_eqI, u_eqS, u_eqB, u_abs, u_intI, u_intB, u_newT, u_newF, u_isN, u_notN, wVar, List.set_cons_zero, List.set_cons_succ, List.getElem?_cons_zero, List.getElem?_cons_succ, List.length_cons, List.length_nil, u_lc, u_for, u_r1, u_r2, u_r3, u_num, u_notV, u_yes, u_w0, u_w1, u_dput, u_get2, u_dget, u_prop, u_fld, u_setF, u_make, u_makeS, u_met, u_calO, u_orT, u_tupIt, u_dc, u_maxDd, u_dnew, u_tupi, ix_p0, ix_p1, wSl, woNone, woSome]
      rw [if_neg (by rw [decide_eq_false (by omega)]; decide)]
      exact k
    · rw [if_neg (by rw [decide_eq_false c]; decide)]
      exact k
  rintro _ _ ⟨rfl, rfl⟩
  rw [u_seq]
  simp only [u_asg, u_gN, u_ret, u_retN, u_skip, u_expr, u_ifs, u_c, u_op, u_neg, u_test, u_and, u_or, u_not, u_if, u_nil, u_cons, u_tup, u_lst, u_callP, u_call, u_b, u_chain, u_andV, u_addI, u_subI, u_mulI, u_divI, u_modI, u_powI, u_cmpI, u_eqI, u_eqS, u_eqB, u_abs, u_intI, u_intB, u_newT, u_newF, u_isN, u_notN, wVar, List.set_cons_zero, List.set_cons_succ, List.getElem?_cons_zero, List.getElem?_cons_succ, List.length_cons, List.length_nil, u_lc, u_for, u_r1, u_r2, u_r3, u_num, u_notV, u_yes, u_w0, u_w1, u_tupi, u_prop]
  refine ⟨ledD_isI, es, rfl, ?_⟩
  try dsimp only
  intro p hp
  refine comp_pure (fun x => match x with | .tup [.int a, .int c] => some (.tup [.int (a + b), .int c]) | _ => none) (fun _ => trivial) (by rw [List.length_map]; omega) ?_ ?_
  · intro y acc K hy la kk
    obtain ⟨e, he, rfl⟩ := List.mem_map.mp hy
    refine ⟨_, rfl, rfl, _, _, rfl, _, _, rfl, rfl, ?_⟩
    try simp only [u_asg, u_gN, u_ret, u_retN, u_skip, u_expr, u_ifs, u_c, u_op, u_neg, u_test, u_and, u_or, u_not, u_if, u_nil, u_cons, u_tup, u_lst, u_callP, u_call, u_b, u_chain, u_andV, u_addI, u_subI, u_mulI, u_divI, u_modI, u_powI, u_cmpI, u_eqI, u_eqS, u_eqB, u_abs, u_intI, u_intB, u_newT, u_newF, u_isN, u_notN, wVar, List.set_cons_zero, List.set_cons_succ, List.getElem?_cons_zero, List.getElem?_cons_succ, List.length_cons, List.length_nil, u_lc, u_for, u_r1, u_r2, u_r3, u_num, u_notV, u_yes, u_w0, u_w1, u_dput, u_get2, u_dget, u_prop, u_fld, u_setF, u_make, u_makeS, u_met, u_calO, u_orT, u_tupIt, u_dc, u_maxDd, u_dnew, u_tupi, ix_p0, ix_p1, wSl, woNone, woSome]
    refine ⟨by decide, acc, up_same, la, by rw [up_up]; exact kk⟩
  · have er : (es.map pairD).filterMap (fun x => match x with | .tup [.int a, .int c] => some (D.tup [.int (a + b), .int c]) | _ => none) = (movP b es).map pairD := by
      unfold movP
      rw [List.filterMap_map, List.map_map]
      exact List.filterMap_eq_map ▸ rfl
    rw [er]
    refine endF hp ?_
    simp only [u_asg, u_gN, u_ret, u_retN, u_skip, u_expr, u_ifs, u_c, u_op, u_neg, u_test, u_and, u_or, u_not, u_if, u_nil, u_cons, u_tup, u_lst, u_callP, u_call, u_b, u_chain, u_andV, u_addI, u_subI, u_mulI, u_divI, u_modI, u_powI, u_cmpI, u_eqI, u_eqS, u_eqB, u_abs, u_intI, u_intB, u_newT, u_newF, u_isN, u_notN, wVar, List.set_cons_zero, List.set_cons_succ, List.getElem?_cons_zero, List.getElem?_cons_succ, List.length_cons, List.length_nil, u_lc, u_for, u_r1, u_r2, u_r3, u_num, u_notV, u_yes, u_w0, u_w1, u_makeS]
    refine ⟨_, rfl, fun a ha => ?_⟩
    have ml : (movP b es).length = es.length := by unfold movP; rw [List.length_map]
    refine make_led (rows := movP b es) rfl ha (fun e he => by
      obtain ⟨y, hy, rfl⟩ := List.mem_map.mp he
      have := hr y hy
      exact ⟨by dsimp only; omega, by dsimp only; omega⟩) (by omega) fun gs h1 h2 h3 => ⟨rfl, _, up_same, ?_⟩
    rw [rm_up, rm_none ha]
    exact fin_of (q gs (h1.of_amt fun k => amt_mov) h2 (by omega))
end PN
namespace PB
open PySem PySem.Spec L2 C8 DL PK PL PQ
/-! ### sums over blocks; the least multiple -/
def frmI (gs : Prs) (s : Int) : Int := ((gs.filter fun e => decide (s ≤ e.1)).map (·.2)).sum
def S_Ledger_from_offset (z : Ad) : FSpec := fun ds h Q _ => ∃ (es : Prs) (s : Int), ds = [ledD z.Ledger es, .int s] ∧ es.length ≤ 10000 ∧ Q (.int (frmI es s)) h
end PB
namespace PB
open PySem PySem.Spec L2 C8 DL PK PL PQ
/-! ### the readings -/
def w_Ledger_from_offset (z : Ad) : WS := (wRet (wB dSum (wCons (wLc false (iTupD (wProp z.Ledger (PL.S_Ledger_rows z) (wVar 0))) (gT 2 (gsN [2, 3])) (wTest (wOp (dCmpI fun i j => decide (j ≤ i)) (wVar 2) (wVar 1))) (wVar 3) [2, 3]) wNil)))
end PB
namespace PB
open PySem PySem.Spec L2 C8 DL PK PL PQ
theorem len_Ledger_from_offset (z : Ad) : ∀ ds h Q X, S_Ledger_from_offset z ds h Q X → ds.length = 2 := fun _ _ _ _ ⟨_, _, e, _⟩ => by rw [e]; rfl
theorem mo_Ledger_from_offset (z : Ad) : MoF (S_Ledger_from_offset z) := fun _ _ _ _ _ _ hq _ ⟨a, b, e, o1, q⟩ => ⟨a, b, e, o1, hq _ _ q⟩
def fFr (s : Int) (x : D) : Option D := match x with
  | .tup [.int a, .int b] => if s ≤ a then some (.int b) else none
  | _ => none
theorem fFr_eq {s : Int} : ∀ es : Prs, (es.map pairD).filterMap (fFr s) = ((es.filter fun e => decide (s ≤ e.1)).map (·.2)).map D.int
  | [] => rfl
  | e :: es => by
    have ih := fFr_eq (s := s) es
    have ef : fFr s (pairD e) = if s ≤ e.1 then some (.int e.2) else none := rfl
    rw [List.map_cons, List.filterMap_cons, ef, List.filter_cons]
    by_cases c : s ≤ e.1
    · rw [if_pos c, if_pos (decide_eq_true c), List.map_cons, List.map_cons, ih]
    · rw [if_neg c, if_neg (by rw [decide_eq_false c]; decide), ih]
theorem p_Ledger_from_offset (z : Ad) : ∀ ds h Q X, S_Ledger_from_offset z ds h Q X → w_Ledger_from_offset z (endsD Q X) (startD 4 ds) h := by
  rintro ds h Q X ⟨es, s, rfl, hl, q⟩
  show w_Ledger_from_offset z (endsD Q X) [some (ledD z.Ledger es), some (.int s), none, none] h
  have big := DL.big_size
  unfold w_Ledger_from_offset
  simp only [u_asg, u_gN, u_ret, u_retN, u_skip, u_expr, u_ifs, u_c, u_op, u_neg, u_test, u_and, u_or, u_not, u_if, u_nil, u_cons, u_tup, u_lst, u_callP, u_call, u_b, u_chain, u_andV, u_addI, u_subI, u_mulI, u_divI, u_modI, u_powI, u_cmpI, u_eqI, u_eqS, u_eqB, u_abs, u_intI, u_intB, u_newT, u_newF, u_isN, u_notN, wVar, List.set_cons_zero, List.set_cons_succ, List.getElem?_cons_zero, List.getElem?_cons_succ, List.length_cons, List.length_nil, u_lc, u_for, u_r1, u_r2, u_r3, u_num, u_notV, u_yes, u_w0, u_w1, u_tupi, u_prop]
  refine ⟨ledD_isI, es, rfl, ?_⟩
  try dsimp only
  intro p hp
  refine comp_pure (fFr s) (fun _ => trivial) (by rw [List.length_map]; omega) ?_ ?_
  · intro y acc K hy la kk
    obtain ⟨e, he, rfl⟩ := List.mem_map.mp hy
    refine ⟨_, rfl, rfl, _, _, rfl, _, _, rfl, rfl, ?_⟩
    try simp only [u_asg, u_gN, u_ret, u_retN, u_skip, u_expr, u_ifs, u_c, u_op, u_neg, u_test, u_and, u_or, u_not, u_if, u_nil, u_cons, u_tup, u_lst, u_callP, u_call, u_b, u_chain, u_andV, u_addI, u_subI, u_mulI, u_divI, u_modI, u_powI, u_cmpI, u_eqI, u_eqS, u_eqB, u_abs, u_intI, u_intB, u_newT, u_newF, u_isN, u_notN, wVar, List.set_cons_zero, List.set_cons_succ, List.getElem?_cons_zero, List.getElem?_cons_succ, List.length_cons, List.length_nil, u_lc, u_for, u_r1, u_r2, u_r3, u_num, u_notV, u_yes, u_w0, u_w1, u_dput, u_get2, u_dget, u_prop, u_fld, u_setF, u_make, u_makeS, u_met, u_calO, u_orT, u_tupIt, u_dc, u_maxDd, u_dnew, u_tupi, ix_p0, ix_p1, wSl, woNone, woSome]
    have ef : fFr s (pairD e) = if s ≤ e.1 then some (.int e.2) else none := rfl
    rw [ef] at kk
    by_cases c : s ≤ e.1
    · rw [if_pos c] at kk
      rw [if_pos (decide_eq_true c)]
      exact ⟨acc, up_same, la, by rw [up_up]; exact kk⟩
    · rw [if_neg c, Option.toList_none, List.append_nil] at kk
      rw [if_neg (by rw [decide_eq_false c]; decide)]
      exact kk
  · rw [fFr_eq]
    exact endF hp ⟨_, _, rfl, rfl, fin_of q⟩
end PB
/-! exceptions as values: isinstance, fields; counts and places in lists of bools -/
namespace DL
open PySem PySem.Spec L2 C8 PyProof.Rows
/-- what a kept exception's class must say -/
structure XVal (K : PySem.W.Frag) (C : Addr) : Prop where
  ga : PySem.W.findIn K (.ref C) "__getattribute__" = some (some (.builtin "BaseException.__getattribute__"))
  gg : PySem.W.findIn K (.ref C) "__getattr__" = some none
  sb : PySem.W.subIn K (.ref C) (.type "BaseException") = some true
  hd : PySem.W.hasDictIn K C = true
  cl : PySem.W.findIn K (.ref C) "__class__" = some (some (.builtin "object.__class__"))
  nn : PySem.W.specialIn K (.builtin "object.__class__") "__get__" = some (some (.builtin "getset_descriptor.__get__"))
  tk : PySem.W.takesIn K (.builtin "object.__class__") = some true
  mo : PySem.W.mroIn K C (.type "object") = some true
theorem XVal.is {K : PySem.W.Frag} {C : Addr} (T : XVal K C) : (PySem.W.clsIn K C).isSome = true := by
  obtain ⟨cd, hc, _⟩ := PySem.W.any_some T.hd
  rw [hc]; rfl
theorem XVal.kit {K : PySem.W.Frag} {C x : Addr} {ox : Obj} {od : Option Obj} (T : XVal K C) : PySem.W.KitX K (.ref x) (.ref C) (fun h => PySem.W.InstAt h x ox C od) := PySem.W.kitx_exc T.is T.ga T.gg T.sb T.cl T.nn T.tk T.mo
/-- the kept exception at a, with its fields -/
def KeptX (H : Hp) (a C : Addr) (fs : List (Str × V)) : Prop := (H a = some (exV a C none) ∧ fs = []) ∨ ∃ dd, H a = some (exV a C (some dd)) ∧ H dd = some (.xd fs)
theorem exv_at {P : Program} {w : World} {H : Hp} {h : Heap} {a C : Addr} {d : Option Addr} (hok : HOk P w H h) (e : H a = some (exV a C d)) : ∃ (oe : Obj) (vs : Array Value), h.get? a = some oe ∧ Zc (.ref C) d oe ∧ oe.data = .fields vs := by
  have x : ObjOk P w H h a (.ext fun h => ∃ (oe : Obj) (vs : Array Value), h.get? a = some oe ∧ Zc (.ref C) d oe ∧ oe.data = .fields vs) := hok a _ e
  exact x.1
theorem kept_inst {X : Cx} {pins : List (Addr × Obj)} {σ : L2.St} {H : Hp} {s : Shared} {a C : Addr} {fs : List (Str × V)} (I : Inv X pins σ H s) (k : KeptX H a C fs) : ∃ oe od, PySem.W.InstAt s.heap a oe C od ∧
    ∀ f v, fs.lookup f = some v → ∃ o u, od = some o ∧ RelV v u ∧ PySem.W.lookIn f o = some (some u) := by
  rcases k with ⟨e, rfl⟩ | ⟨dd, e, ed⟩
  · obtain ⟨oe, vs, g, hz, hd⟩ := exv_at I.hok e
    exact ⟨oe, none, ⟨g, hz.1, by unfold PySem.W.notCls; rw [hd] <;> rfl, by rw [hz.2]; trivial⟩, fun f v h => by cases h⟩
  · obtain ⟨oe, vs, g, hz, hd⟩ := exv_at I.hok e
    have hx : ObjOk X.prog X.w H s.heap dd (.xd fs) := I.hok dd _ ed
    obtain ⟨mA, hns, hr⟩ := hx
    obtain ⟨od, ho, hl⟩ := lookIn_ns hns
    refine ⟨oe, some od, ⟨g, hz.1, by unfold PySem.W.notCls; rw [hd] <;> rfl, by rw [hz.2]; exact ho⟩, fun f v h => ?_⟩
    obtain ⟨u, hu, ru⟩ := RelO.some_of (v := v) (o := mA f) (by rw [← h]; exact hr f)
    exact ⟨od, u, rfl, ru, by rw [hl, hu]⟩
theorem rep_kept {K : PySem.W.Frag} {F : Hp} {h : AH} {H : Hp} {C : Addr} {fs : List (Str × D)} {v : V} (S : Sim K F h H) (r : Rep K F (.xob C fs) v) : ∃ a vs, v = .ref a ∧ KeptX H a C vs ∧ RepF K F fs vs := by
  cases r with
  | xob0 e => exact ⟨_, [], rfl, .inl ⟨S.fz _ _ e, rfl⟩, .nil⟩
  | xob e ed rf => exact ⟨_, _, rfl, .inr ⟨_, S.fz _ _ e, S.fz _ _ ed⟩, rf⟩
/-! ### isinstance -/
def rIsX (K : PySem.W.Frag) : List V → Hp → VK → Prop := fun xs H Q => ∃ (a C : Addr) (fs : List (Str × V)) (c : V) (cv : Value) (b : Bool), xs = [.ref a, c] ∧ KeptX H a C fs ∧ XVal K C ∧ ClsV c cv ∧ PySem.W.kitOne K (.ref C) cv = some b ∧ Q (.bl b) H
theorem call_isX {X : Cx} : CallR X (.builtin "isinstance") (rIsX X.K) := by
  intro pins s σ H xs us Q I r h
  obtain ⟨a, C, fs, c, cv, b, rfl, k, T, kc, e, q⟩ := h
  obtain ⟨u1, u2, rfl, r1, r2⟩ := vals2 r
  obtain rfl : u1 = Value.ref a := r1
  have e2 := kc.eq r2
  subst e2
  obtain ⟨oe, od, J, _⟩ := kept_inst I k
  exact PySem.W.kia_one T.kit I.kIn J e (fun z => nomatch z) fun tk => ⟨.bl b, H, I.tok tk, rfl, q⟩
/-- a class as data -/
inductive ClsD : D → V → Value → Prop where
  | ty (n : String) : ClsD (.ty n) (.ty n) (.type n)
  | own (C : Addr) : ClsD (.ref C) (.ref C) (.ref C)
theorem ClsD.v {d : D} {v : V} {u : Value} (k : ClsD d v u) : ClsV v u := by
  cases k with
  | ty n => exact .ty n
  | own C => exact .own C
theorem ClsD.rep {K : PySem.W.Frag} {F : Hp} {d : D} {v w : V} {u : Value} (k : ClsD d v u) (r : Rep K F d w) : w = v := by
  cases k with
  | ty n => cases r; rfl
  | own C => cases r; rfl
/-- whose instances are which -/
abbrev XTab := List (Addr × D × Bool)
def XTabOk (K : PySem.W.Frag) (M : XTab) : Prop := ∀ p ∈ M, XVal K p.1 ∧ ∃ v u, ClsD p.2.1 v u ∧ PySem.W.kitOne K (.ref p.1) u = some p.2.2
def dIsX (M : XTab) (ds : List D) (h : AH) (Q : KD) : Prop := ∃ C fs c b, ds = [.xob C fs, c] ∧ (C, c, b) ∈ M ∧ Q (.bl b) h
section
variable {X : Cx}
theorem dIsX_ok {M : XTab} (ok : XTabOk X.K M) : CaD X (.builtin "isinstance") (dIsX M) where
  ex := ⟨_, call_isX, fun {F h H ds vs Q} S r q => by
    obtain ⟨C, fs, c, b, rfl, hm, q⟩ := q
    obtain ⟨v, w, rfl, r1, r2⟩ := r.two
    obtain ⟨a, us, rfl, k, _⟩ := rep_kept S r1
    obtain ⟨T, v2, u, kc, e⟩ := ok _ hm
    have ev := kc.rep r2
    subst ev
    exact ⟨a, C, us, _, u, b, rfl, k, T, kc.v, e, q.at S (.bl _)⟩⟩
  mo := fun {ds h Q Q'} hq ⟨C, fs, c, b, e, hm, q⟩ => ⟨C, fs, c, b, e, hm, hq _ _ q⟩
/-! ### fields -/
def wXFld (Cs : List Addr) (f : Str) (we : WE) : WE := fun ρ h Q X => we ρ h (fun x h1 => ∃ C fs d, x = .xob C fs ∧ C ∈ Cs ∧ fs.lookup f = some d ∧ Q d h1) X
theorem ae_xfld {E : XK} {Cs : List Addr} {f : Str} {e : Expr} {we : WE} {pos : Pos} (ok : ∀ C ∈ Cs, XVal X.K C ∧ PySem.W.findIn X.K (.ref C) f = some none) (he : AE X E e we) (hb : attributeBase e f X.env (eval e X.env) = eval e X.env := by rfl) : AE X E (.Attribute e f pos) (wXFld Cs f we) := by
  refine ⟨⟨fun pins s σ H Q I hq => ?_⟩, fun ρ h Q Q' X X' hq hx q => he.mo _ _ _ _ _ _ (fun x h1 ⟨C, fs, d, e1, e2, e3, z⟩ => ⟨C, fs, d, e1, e2, e3, hq _ _ z⟩) hx q⟩
  obtain ⟨F, ρ, h, S, R, q⟩ := hq
  refine attr_of hb (thn (he.run.run pins s σ H (fun v H1 => ∃ (a C : Addr) (vs : List (Str × V)) (u : V), v = .ref a ∧ C ∈ Cs ∧ KeptX H1 a C vs ∧ vs.lookup f = some u ∧ Q u H1) I ⟨F, ρ, h, S, R, he.mo _ _ _ _ _ _ (fun x h1 z => ?_) (fun _ _ z => z) q⟩) fun u s1 hh => ?_)
  · obtain ⟨C, fs, d, rfl, hC, hl, z⟩ := z
    intro F1 H1 v e1 S1 r
    obtain ⟨a, us, rfl, k, rf⟩ := rep_kept S1 r
    obtain ⟨w, hw, rw'⟩ := rf.look hl
    exact ⟨a, C, us, w, rfl, hC, k, hw, z F1 H1 w e1 S1 rw'⟩
  · obtain ⟨v, H1, I1, r1, a, C, vs, w, rfl, hC, k, hl, z⟩ := hh
    obtain rfl : u = Value.ref a := r1
    obtain ⟨T, hno⟩ := ok C hC
    obtain ⟨oe, od, J, hf⟩ := kept_inst I1 k
    obtain ⟨o, u2, rfl, ru, hlk⟩ := hf f w hl
    exact HandSPX.exc_get I1.kIn J T.ga T.gg T.sb (PySem.W.findObj_own T.hd hno rfl hlk) (handed_of ru) ⟨w, H1, I1.tok _, ru, z⟩
/-! ### lists of bools -/
def rCntF (K : PySem.W.Frag) : V → List V → Hp → VK → Prop := fun x xs H Q => ∃ (a : Addr) (ys : List V) (y : V), x = V.ref a ∧ xs = [y] ∧ SqL K H a ys ∧ flatV y = true ∧ ys.all flatV = true ∧ Q (.int ((ys.countP fun z => eqV z y : Nat) : Int)) H
theorem count_flat {y : V} : ∀ {ys : List V} {us : List Value}, Vals ys us → ys.all flatV = true → us.countP (eqU y) = ys.countP fun z => eqV z y
  | _, _, .nil, _ => rfl
  | _, _, .cons r h, f => by
    rw [List.all_cons, Bool.and_eq_true] at f
    rw [List.countP_cons, List.countP_cons, count_flat h f.2, eqU_of r f.1]
theorem mt_countF : MtR X "list.count" (rCntF X.K) := by
  intro pins s σ H x xs v us Q I rx rxs h
  obtain ⟨p, ys, y, rfl, rfl, hs, fy, fys, q⟩ := h
  cases rx
  obtain ⟨u, rfl, ru⟩ := rxs.one
  obtain ⟨its, rv, ⟨⟨cls, dd, data, sl⟩, n, ho, hc, hdn, hd⟩, hlen⟩ := I.list hs
  simp only at hc hd
  subst hc hd
  refine call_meets PySem.F.slot_list_count ⟨_, ho, rfl⟩ PySem.F.entry_list_count (PySem.F.args_list_count_2 _ _) (SeqAt.list_countAt p its.toArray n dd sl u (eqU y)) ⟨ho, fun z hz => mem_eqAt ru fy rv fys z (by simpa using hz), ?_⟩
  refine ⟨.int (ys.countP fun z => eqV z y : Nat), H, I.tok _, ⟨s.toks, ?_⟩, q⟩
  rw [← count_flat rv fys]
end
def dCountB (x : D) (ys : List D) (h : AH) (Q : KD) : Prop := ∃ (bs : List Bool) (k : Bool), lstOf h x = some (bs.map D.bl) ∧ ys = [.bl k] ∧ Q (.int ((bs.countP fun b => b == k : Nat) : Int)) h
def dIndexB (x : D) (ys : List D) (h : AH) (Q : KD) : Prop := ∃ (bs : List Bool) (k : Bool) (j : Nat), lstOf h x = some (bs.map D.bl) ∧ ys = [.bl k] ∧ bs.findIdx? (fun b => b == k) = some j ∧ Q (.int (j : Nat)) h
theorem reps_bl {K : PySem.W.Frag} {F : Hp} : ∀ {bs : List Bool} {vs : List V}, Reps K F (bs.map D.bl) vs → vs = bs.map V.bl
  | [], _, .nil => rfl
  | b :: bs, _, .cons r t => by cases r; rw [List.map_cons, reps_bl t]
theorem flat_bl : ∀ {bs : List Bool}, (bs.map V.bl).all flatV = true
  | [] => rfl
  | b :: bs => by rw [List.map_cons, List.all_cons, flat_bl]; rfl
theorem dCountB_ok {K : PySem.W.Frag} : MeD K "list" (rCntF K) dCountB isL where
  ty := isL_ty
  mo := fun hq ⟨bs, k, e1, e2, q⟩ => ⟨bs, k, e1, e2, hq _ _ q⟩
  to := by
    rintro F h H x ys vx vs Q S rx rs ⟨bs, k, e, rfl, q⟩
    obtain ⟨a, us, rfl, ha, ru⟩ := S.lstOf rx e
    obtain rfl := reps_bl ru
    cases rs with
    | cons r rs =>
      cases rs
      cases r
      refine ⟨a, _, .bl k, rfl, rfl, .of ha, rfl, flat_bl, ?_⟩
      have ec : (bs.map V.bl).countP (fun z => eqV z (.bl k)) = bs.countP fun b => b == k := by
        rw [List.countP_map]; rfl
      rw [ec]
      exact q F H _ (.refl F) S (.int _)
theorem dIndexB_ok {K : PySem.W.Frag} : MeD K "list" (rIndex K) dIndexB isL where
  ty := isL_ty
  mo := fun hq ⟨bs, k, j, e1, e2, e3, q⟩ => ⟨bs, k, j, e1, e2, e3, hq _ _ q⟩
  to := by
    rintro F h H x ys vx vs Q S rx rs ⟨bs, k, j, e, rfl, hj, q⟩
    obtain ⟨a, us, rfl, ha, ru⟩ := S.lstOf rx e
    obtain rfl := reps_bl ru
    obtain ⟨hl, h1, h2⟩ := List.findIdx?_eq_some_iff_getElem.mp hj
    cases rs with
    | cons r rs =>
      cases rs
      cases r
      refine ⟨a, _, .bl k, j, .bl bs[j], rfl, rfl, .of ha, rfl, flat_bl, ?_, h1, fun m z' hm hz => ?_, q F H _ (.refl F) S (.int _)⟩
      · rw [List.getElem?_map, List.getElem?_eq_getElem hl]; rfl
      · have lm : m < bs.length := Nat.lt_trans hm hl
        rw [List.getElem?_map, List.getElem?_eq_getElem lm] at hz
        obtain rfl := Option.some.inj hz
        have z := h2 m hm
        exact Bool.eq_false_iff.mpr z
section
variable {X : Cx} {E : XK} {o e : Expr} {wo : WE} {wl : WA} {apos cpos : Pos}
theorem ae_countB (ho : AE X E o wo) (ha : AA X E [e] wl) (hbase : attributeBase o "count" X.env (eval o X.env) = eval o X.env := by rfl)
    (hfew : ((backTo cpos (starEach [e] X.env)).all (fun x => !x.1) && (backToKw cpos (keywordEach [] X.env)).all (fun x => x.1.isSome) && decide ([e].length + ([] : List Keyword).length + (if ([] : List Keyword).isEmpty then 0 else 1) < 30)) = true := by rfl)
    (hline : (apos.endLine == cpos.line) = true := by rfl) (hs : starEach [e] X.env = (false, eval e X.env) :: starEach [] X.env := by rfl) (hplain : (backTo cpos (starEach [] X.env)).any (·.1) = false := by rfl) :
    AE X E (.Call (.Attribute o "count" apos) [e] [] cpos) (wMethT isL dCountB wo wl) :=
  ae_bm dCountB_ok mt_countF PySem.F.plainAttrs_list PySem.F.slot_list_count PySem.F.type_list_count ho ha hbase hfew hline hs hplain
theorem ae_indexB (ho : AE X E o wo) (ha : AA X E [e] wl) (hbase : attributeBase o "index" X.env (eval o X.env) = eval o X.env := by rfl)
    (hfew : ((backTo cpos (starEach [e] X.env)).all (fun x => !x.1) && (backToKw cpos (keywordEach [] X.env)).all (fun x => x.1.isSome) && decide ([e].length + ([] : List Keyword).length + (if ([] : List Keyword).isEmpty then 0 else 1) < 30)) = true := by rfl)
    (hline : (apos.endLine == cpos.line) = true := by rfl) (hs : starEach [e] X.env = (false, eval e X.env) :: starEach [] X.env := by rfl) (hplain : (backTo cpos (starEach [] X.env)).any (·.1) = false := by rfl) :
    AE X E (.Call (.Attribute o "index" apos) [e] [] cpos) (wMethT isL dIndexB wo wl) :=
  ae_bm dIndexB_ok mt_index PySem.F.plainAttrs_list PySem.F.slot_list_index PySem.F.type_list_index ho ha hbase hfew hline hs hplain
end
/-! ### list(range(n)) -/
end DL
namespace PR
open PySem PySem.Spec L2 C8 DL PK PL
/-! ### late buffers -/
def noCap (z : Ad) (x : D) : DX := .own z.InvalidCapacity [("value", x)]
def capB (x : D) : Bool := btw x 1 (10 ^ 30)
def S_need_capacity (z : Ad) : FSpec := fun ds h Q X => ∃ x t, ds = [x] ∧ tyD h x = some t ∧ (capB x = true → Q .non h) ∧ (capB x = false → X (noCap z x) h)
end PR
namespace PR
open PySem PySem.Spec L2 C8 DL PK PL
/-! ### the readings -/
def w_need_capacity (z : Ad) : WS := (wIfS (wNot (wTest (wCallP (PK.S_is_between z) 3 (fun ds _ => ds) (wCons (wVar 0) (wCons (wC (.int 1)) (wCons (wC (.int 1000000000000000000000000000000)) wNil)))))) (wRaise z.InvalidCapacity ["value"] (wCons (wVar 0) wNil)) wSkip)
end PR
namespace PR
open PySem PySem.Spec L2 C8 DL PK PL
theorem len_need_capacity (z : Ad) : ∀ ds h Q X, S_need_capacity z ds h Q X → ds.length = 1 := fun _ _ _ _ ⟨_, _, e, _⟩ => by rw [e]; rfl
theorem mo_need_capacity (z : Ad) : MoF (S_need_capacity z) := fun _ _ _ _ _ _ hq hx ⟨a, b, e, o1, o2, o3⟩ => ⟨a, b, e, o1, fun c => hq _ _ (o2 c), fun c => hx _ _ (o3 c)⟩
theorem capB_int {c : Int} : capB (.int c) = (decide (1 ≤ c) && decide (c ≤ 10 ^ 30)) := rfl
theorem capB_at {x : D} (h : capB x = true) : ∃ c, x = .int c ∧ 1 ≤ c ∧ c ≤ 10 ^ 30 := by
  cases x with
  | int c =>
    rw [capB_int, Bool.and_eq_true, decide_eq_true_iff, decide_eq_true_iff] at h
    exact ⟨c, rfl, h.1, h.2⟩
  | _ => cases h
theorem p_need_capacity (z : Ad) : ∀ ds h Q X, S_need_capacity z ds h Q X → w_need_capacity z (endsD Q X) (startD 1 ds) h := by
  rintro ds h Q X ⟨x, t, rfl, ht, q, r⟩
  show w_need_capacity z (endsD Q X) [some x] h
  unfold w_need_capacity
  simp only [u_asg, u_gN, u_ret, u_retN, u_skip, u_expr, u_ifs, u_c, u_op, u_neg, u_test, u_and, u_or, u_not, u_if, u_nil, u_cons, u_tup, u_lst, u_callP, u_call, u_b, u_chain, u_andV, u_addI, u_subI, u_mulI, u_divI, u_modI, u_powI, u_cmpI, u_eqI, u_eqS, u_eqB, u_abs, u_intI, u_intB, u_newT, u_newF, u_isN, u_notN, wVar, List.set_cons_zero, List.set_cons_succ, List.getElem?_cons_zero, List.getElem?_cons_succ, List.length_cons, List.length_nil, u_lc, u_for, u_r1, u_r2, u_r3, u_num, u_notV, u_yes, u_w0, u_w1, u_dput, u_get2, u_dget, u_prop, u_fld, u_setF, u_make, u_makeS, u_met, u_calO, u_orT, u_tupIt, u_dc, u_maxDd, u_dnew, u_tupi, ix_p0, ix_p1, wSl, woNone, woSome]
  refine ⟨trivial, x, t, 1, _, rfl, ht, ?_⟩
  have e : btw x 1 1000000000000000000000000000000 = capB x := by unfold capB; rw [show (10 : Int) ^ 30 = 1000000000000000000000000000000 by decide]
  rw [e]
  cases c : capB x with
  | true =>
    simp only [Bool.not_true, Bool.false_eq_true, if_false]
    exact fin_of (q c)
  | false =>
    simp only [Bool.not_false, if_true, u_raise, u_asg, u_gN, u_ret, u_retN, u_skip, u_expr, u_ifs, u_c, u_op, u_neg, u_test, u_and, u_or, u_not, u_if, u_nil, u_cons, u_tup, u_lst, u_callP, u_call, u_b, u_chain, u_andV, u_addI, u_subI, u_mulI, u_divI, u_modI, u_powI, u_cmpI, u_eqI, u_eqS, u_eqB, u_abs, u_intI, u_intB, u_newT, u_newF, u_isN, u_notN, wVar, List.set_cons_zero, List.set_cons_succ, List.getElem?_cons_zero, List.getElem?_cons_succ, List.length_cons, List.length_nil, u_lc, u_for, u_r1, u_r2, u_r3, u_num, u_notV, u_yes, u_w0, u_w1, u_dput, u_get2, u_dget, u_prop, u_fld, u_setF, u_make, u_makeS, u_met, u_calO, u_orT, u_tupIt, u_dc, u_maxDd, u_dnew, u_tupi, ix_p0, ix_p1, wSl, woNone, woSome]
    exact ⟨trivial, r c⟩
end PR
/-! instances called by keywords -/
namespace DL
open PySem PySem.Spec L2 C8
theorem callO_ofK {M : Model} {A : Around} {E : Value → Shared → Prop} {s : Shared} {a : Addr} {pos : Pos} {Q : Value → Shared → Prop} {args : List (Bool × Sem Value)} {kw : List (Option Str × Sem Value)} (hplain : (args.any (·.1) || kw.any (·.1.isNone)) = false)
    (h : wpAny M A (evalArgs (.ref a) true args kw) (fun z s₁ => (∃ C ox od, PySem.W.InstAt s₁.heap a ox C od ∧ ox.data = .plain) ∧ wpAny M A (call (.ref a) ([] ++ z.pos) z.kw) Q E s₁) E s) : wpAny M A (callWith pos (.ref a) [] args kw) Q E s := by
  unfold callWith
  refine wpAny_bind (wpAny_holding (wpAny_mono h (fun z s₁ h₁ => wpAny_bind (wpAny_standAt ?_)) fun _ _ y => y))
  obtain ⟨⟨C, ox, od, J, hd⟩, h₁⟩ := h₁
  have L := PySem.W.kco_keeper (M := M) J hd
  simp only [hplain]
  refine wpAny_bind (L.here ?_)
  have tail : ∀ {t : Sem Value}, wpAny M A t Q E s₁ → wpAny M A (t >>= fun r => holding [r] point >>= fun _ => pure r) Q E s₁ :=
    fun ht => wpAny_bind (wpAny_mono ht (fun r s₂ hr => wpAny_bind (wpAny_holding (wpAny_point (wpAny_pure hr)))) fun _ _ y => y)
  exact tail (wpAny_operateT h₁)
section
variable (P : Program) (w : World) (K : PySem.W.Frag) (mg : Str → Option Value) (base : Heap)
/-- an instance called by keywords -/
structure CalKC (C : Addr) (k : Nat) (ks : List Str) (gg : List D → List D → List D) (S : FSpec) : Prop where
  ex : ∃ f fd ps, StX.CallO K C f ∧ FnG false P w K mg base k f fd ps S ∧ Bnd K fd ps 1 ks gg
end
section
variable {X : Cx} {E : XK} {gz : Bool} {k j : Nat} {fe : Expr} {kws : List Keyword} {wo : WE} {wk : WA} {pos : Pos} {C : Addr} {S : FSpec} {ks : List Str} {gg : List D → List D → List D}
/-- f(k = e), f an instance of C -/
def wCalK (C : Addr) (S : FSpec) (l : Nat) (gg : List D → List D → List D) (wo : WE) (wk : WA) : WE := fun ρ h Q X => wo ρ h (fun x h1 => isI C x h1 ∧ wk ρ h1 (fun zs h2 => isI C x h2 ∧ zs.length = l ∧ S (gg [x] zs) h2 Q X) X) X
theorem ag_callK {l : Nat} (c : Cg gz X E k) (R : CalKC X.prog X.w X.K X.mg X.base C j ks gg S) (hj : j ≤ k) (ho : AE X E fe wo) (hkw : AK X E kws wk) (hl : ks.length = l := by rfl)
    (hall : (backToKw pos (keywordEach kws X.env)).all (·.1.isSome) = true := by rfl) (hks : (backToKw pos (keywordEach kws X.env)).filterMap (·.1) = ks := by rfl)
    (hpl : ((backTo pos (starEach [] X.env)).any (·.1) || (backToKw pos (keywordEach kws X.env)).any (·.1.isNone)) = false := by rfl)
    (ht : eval (.Call fe [] kws pos) X.env = (do callWith pos (← eval fe X.env) [] (backTo pos (starEach [] X.env)) (backToKw pos (keywordEach kws X.env))) := by rfl) : AE X E (.Call fe [] kws pos) (wCalK C S l gg wo wk) := by
  obtain ⟨f, fd, ps, hc, G, B⟩ := R.ex
  refine ⟨⟨fun pins s σ H Q I hq => ?_⟩, fun ρ h Q Q' X X' hq hx q => ho.mo _ _ _ _ _ _ (fun x h1 ⟨e1, z⟩ => ⟨e1, hkw.mo _ _ _ _ _ _ (fun zs h2 z => ⟨z.1, z.2.1, G.mo _ _ _ _ _ _ hq hx z.2.2⟩) hx z⟩) hx q⟩
  obtain ⟨F, ρ, h, S0, R, q⟩ := hq
  rw [ht]
  refine wpAny_bind (thn (ho.run.run pins s σ H (fun v H1 => ∃ F1 h1 x, Ext F F1 ∧ Sim X.K F1 h1 H1 ∧ Rep X.K F1 x v ∧ isI C x h1 ∧ wk ρ h1 (fun zs h2 => isI C x h2 ∧ zs.length = l ∧ S (gg [x] zs) h2 (LQ X.K F1 Q) (LX X.K F1 E)) (LX X.K F1 E)) I
    ⟨F, ρ, h, S0, R, ho.mo _ _ _ _ _ _ (fun x h1 z F1 H1 v e1 S1 r => ?_) (fun _ _ z => z) q⟩) fun u s1 hh => ?_)
  · obtain ⟨ei, z⟩ := z
    exact ⟨F1, h1, x, e1, S1, r, ei, hkw.mo _ _ _ _ _ _ (fun zs h2 z => ⟨z.1, z.2.1, G.mo _ _ _ _ _ _ (fun _ _ z => LQ.ext e1 z) (fun _ _ z => LX.ext e1 z) z.2.2⟩) (fun _ _ z => LX.ext e1 z) z⟩
  obtain ⟨v, H1, I1, rv, F1, h1, x, e1, S1, r, ⟨fs, ei⟩, z⟩ := hh
  obtain ⟨a, dx, vs, rfl, ha, rf⟩ := S1.insOf r ei
  obtain rfl : u = Value.ref a := rv
  refine callO_ofK hpl (PyProof.Rows.evalArgs_kw2_nil hall ?_)
  refine (thn (hkw.run.run pos pins s1 σ H1 (fun ys H2 => ∃ F2 h2 zs, Ext F1 F2 ∧ Sim X.K F2 h2 H2 ∧ Reps X.K F2 zs ys ∧ isI C x h2 ∧ zs.length = l ∧ S (gg [x] zs) h2 (LQ X.K F2 Q) (LX X.K F2 E)) I1
      ⟨F1, ρ, h1, S1, R.ext e1, hkw.mo _ _ _ _ _ _ (fun zs h2 q2 F2 H2 ys e2 S2 rz => ⟨F2, h2, zs, e2, S2, rz, q2.1, q2.2.1, G.mo _ _ _ _ _ _ (fun _ _ z => LQ.ext e2 z) (fun _ _ z => LX.ext e2 z) q2.2.2⟩) (fun _ _ z => z) z⟩) fun ws s2 hh => ?_)
  obtain ⟨ys, H2, I2, r2, F2, h2, zs, e2, S2, rz, ⟨fs2, ei2⟩, l2, q2⟩ := hh
  obtain ⟨a2, dx2, vs2, ea, hi, _⟩ := S2.insOf (r.ext e2) ei2
  cases ea
  obtain ⟨ox, od, J, hd⟩ := StX.insC_at I2 (.inr ⟨dx2, vs2, hi⟩)
  refine ⟨⟨C, ox, od, J, hd⟩, ?_⟩
  rw [hks]
  obtain ⟨xs, ts, rx, rt, bt⟩ := B.to s2 F2 [x] zs [V.ref a] ys [Value.ref a] ws I2.kIn rfl (l2.trans hl.symm) (.cons (r.ext e2) .nil) (.cons rfl .nil) rz r2
  exact wpAny_call (PySem.W.kco_code I2.kIn J hd hc.at_ hc.fn hc.fi (codeAny_mono (run_g (c.mono hj) G (fun z => Bool.noConfusion z) I2 bt rt ⟨F2, _, h2, S2, rx, q2⟩) fun r s' hr => by
    match r, hr with
    | .error _, hr => exact hr
    | .ok (.ret _), hr => exact hr))
theorem u_calK {ρ : EnvD} {h : AH} {Q : KD} {XX : KX} {l : Nat} : wCalK C S l gg wo wk ρ h Q XX = wo ρ h (fun x h1 => isI C x h1 ∧ wk ρ h1 (fun zs h2 => isI C x h2 ∧ zs.length = l ∧ S (gg [x] zs) h2 Q XX) XX) XX := rfl
end
end DL
/-! repr of things with {} within -/
namespace PK
open PySem PySem.Spec L2 C8 DL
/-! how long the text of a thing may be -/
/-- what repr of a thing asks -/
structure Rq (x : D) (k n : Nat) : Prop where
  da : dq x = true
  sh : (pq x).showable = true
  de : (pq x).depth ≤ k
  le : (pq x).shown.length ≤ n
theorem showall : ∀ {xs : List D}, (∀ x ∈ xs, (pq x).showable = true) → PyData.showableAll (pqs xs) = true
  | [], _ => by rw [pqs, PyData.showableAll]
  | x :: xs, h => by rw [pqs, PyData.showableAll, h x (List.mem_cons_self ..), showall fun y hy => h y (List.mem_cons_of_mem _ hy)]; rfl
theorem depall {k : Nat} : ∀ {xs : List D}, (∀ x ∈ xs, (pq x).depth ≤ k) → PyData.depthAll (pqs xs) ≤ k
  | [], _ => by rw [pqs, PyData.depthAll]; exact Nat.zero_le _
  | x :: xs, h => by rw [pqs, PyData.depthAll]; exact Nat.max_le.mpr ⟨h x (List.mem_cons_self ..), depall fun y hy => h y (List.mem_cons_of_mem _ hy)⟩
theorem dqs_ok : ∀ {xs : List D}, (∀ x ∈ xs, dq x = true) → dqs xs = true
  | [], _ => by rw [dqs]
  | x :: xs, h => by rw [dqs, h x (List.mem_cons_self ..), dqs_ok fun y hy => h y (List.mem_cons_of_mem _ hy)]; rfl
/-! things may be shown -/
theorem go_rq {x : D} {k n : Nat} {h : AH} {Q : KD} (r : Rq x k n) (hk : k ≤ 60) (hn : n ≤ 10000000) (q : Q (.str (pq x).shown) h) : dReprQ [x] h Q :=
  ⟨x, rfl, r.da, r.sh, Nat.le_trans r.de hk, Nat.le_trans r.le (Nat.le_trans hn (by decide)), q⟩
theorem shown_n {n : Nat} : ∀ xs : List D, (∀ x ∈ xs, (pq x).shown.length ≤ n) → ((PyData.shownAll (pqs xs)).map fun t => t.length + 2).sum ≤ xs.length * (n + 2)
  | [], _ => by rw [pqs, PyData.shownAll]; exact Nat.zero_le _
  | x :: xs, h => by
    have h1 := h x (List.mem_cons_self ..)
    have h2 := shown_n xs fun y hy => h y (List.mem_cons_of_mem _ hy)
    rw [pqs, PyData.shownAll, List.map_cons, List.sum_cons, List.length_cons, Nat.add_mul]
    omega
theorem rq_tup {xs : List D} {k n : Nat} (h : ∀ x ∈ xs, Rq x k n) : Rq (.tup xs) (k + 1) (3 + xs.length * (n + 2)) := by
  refine ⟨dqs_ok fun x hx => (h x hx).da, ?_, ?_, ?_⟩
  · rw [pq, PyData.showable]; exact showall fun x hx => (h x hx).sh
  · rw [pq, PyData.depth]
    have := depall (xs := xs) (k := k) fun x hx => (h x hx).de
    omega
  · rw [pq, PyData.shown]
    have := tup_len (PyData.shownAll (pqs xs))
    have := shown_n xs fun x hx => (h x hx).le
    omega
theorem rq_lst {xs : List D} {k n : Nat} (h : ∀ x ∈ xs, Rq x k n) : Rq (.lst xs) (k + 1) (3 + xs.length * (n + 2)) := by
  refine ⟨dqs_ok fun x hx => (h x hx).da, ?_, ?_, ?_⟩
  · rw [pq, PyData.showable]; exact showall fun x hx => (h x hx).sh
  · rw [pq, PyData.depth]
    have := depall (xs := xs) (k := k) fun x hx => (h x hx).de
    omega
  · rw [pq, PyData.shown]
    have := lst_len (PyData.shownAll (pqs xs))
    have := shown_n xs fun x hx => (h x hx).le
    omega
theorem Rq.up {x : D} {k n l m : Nat} (r : Rq x k n) (h1 : k ≤ l) (h2 : n ≤ m) : Rq x l m := ⟨r.da, r.sh, Nat.le_trans r.de h1, Nat.le_trans r.le h2⟩
theorem rq_int {i : Int} {j : Nat} (hj : 0 < j) (hj2 : j ≤ 1900) (h : i.natAbs < 2 ^ j) : Rq (.int i) 0 (j + 1) := by
  have r := rp_int hj hj2 h
  have e : pq (.int i) = pd (.int i) := by rw [pq, pd]
  exact ⟨rfl, by rw [e]; exact r.sh, by rw [e]; exact r.de, by rw [e]; exact r.le⟩
theorem rq_bl (b : Bool) : Rq (.bl b) 0 5 := ⟨rfl, by rw [pq, PyData.showable], by rw [pq, PyData.depth]; exact Nat.zero_le _, by rw [pq, PyData.shown]; cases b <;> decide⟩
theorem rq_non : Rq .non 0 4 := ⟨rfl, rfl, by rw [pq, PyData.depth]; exact Nat.zero_le _, by rw [pq, PyData.shown]; decide⟩
theorem rq_str {s : Str} {n : Nat} (h : (PyData.str s).shown.length ≤ n) : Rq (.str s) 0 n := ⟨rfl, by rw [pq, PyData.showable], by rw [pq, PyData.depth]; exact Nat.zero_le _, by rw [pq]; exact h⟩
theorem rq_dic : Rq (.dK []) 1 2 := ⟨by rw [dq]; rfl, by rw [pq]; rfl, by rw [pq]; decide +kernel, by rw [pq]; decide +kernel⟩
end PK
namespace K26
open PySem PySem.Spec L2 C8 DL PK PL PQ PN PB F4 PR
abbrev N_need_capacity : List Str := ["value"]
abbrev N_is_row : List Str := ["value"]
abbrev N_Ledger___init__ : List Str := ["self", "rows", "found", "index", "row", "offset"]
abbrev N_Ledger_rows : List Str := ["self"]
abbrev N_Ledger_greatest : List Str := ["self"]
abbrev N_Ledger___len__ : List Str := ["self"]
abbrev N_Ledger___add__ : List Str := ["self", "other", "some"]
abbrev N_Ledger___neg__ : List Str := ["self"]
abbrev N_Ledger___sub__ : List Str := ["self", "other"]
abbrev N_Ledger___mul__ : List Str := ["self", "number", "some", "offset", "amount"]
abbrev N_Ledger_moved : List Str := ["self", "by", "some", "offset", "amount"]
abbrev N_Ledger_from_offset : List Str := ["self", "offset", "place", "amount"]
abbrev N_Ledger_sum_at : List Str := ["self", "capacity", "offset", "amount"]
abbrev N_Ledger___call__ : List Str := ["self", "capacity"]
abbrev N_Ledger___eq__ : List Str := ["self", "other"]
abbrev N__law_pen : List Str := ["_law_script"]
abbrev N__law_draw : List Str := ["_law_pen_here", "_law_many", "_law_digit", "_law_at", "_law_cell", "_law_great", "_law_mixed"]
abbrev N__law_word : List Str := ["_law_it", "_law_some", "_law_at", "_law_bases", "_law_words"]
abbrev N__law_field : List Str := ["_law_word_here", "_law_it"]
abbrev N__law_more_field : List Str := ["_law_word_here", "_law_it"]
abbrev N__law_heard : List Str := ["_law_ask", "_law_it", "error", "_law_word_here"]
abbrev N__law_offset : List Str := ["_law_pen_here"]
abbrev N__law_amount : List Str := ["_law_pen_here", "_law_some"]
abbrev N__law_rows : List Str := ["_law_pen_here", "_law_most", "_law_found", "_law_k", "_law_row"]
abbrev N__law_sums : List Str := ["_law_rows_here", "_law_found", "_law_spot", "_law_amount_here"]
abbrev N__law_ledger : List Str := ["_law_rows_here"]
abbrev N__law_moved_right : List Str := ["_law_pen_here", "_law_made", "_law_due_here", "_law_turn", "_law_shift", "_law_heard_here", "_law_answer", "_law_spot", "_law_amount_here"]
abbrev N__law_from_right : List Str := ["_law_pen_here", "_law_made", "_law_due_here", "_law_some", "_law_spot", "_law_answer", "_law_amount_here", "_law_place"]
abbrev N__law_capacity : List Str := ["_law_pen_here", "_law_near", "_law_some", "_law_spot"]
abbrev N__law_no_capacity : List Str := ["_law_pen_here", "_law_some"]
abbrev N__law_due : List Str := ["_law_rows_here", "_law_size", "_law_found", "_law_spot", "_law_amount_here"]
abbrev N__law_called_right : List Str := ["_law_pen_here", "_law_one", "_law_other", "_law_made", "_law_more", "_law_again", "_law_size", "_law_due_here", "_law_whole", "_law_wrong", "_law_spot", "_law_amount_here"]
abbrev N_law : List Str := ["_law_script", "_law_pen_here", "_law_turn", "_law_one", "_law_other", "_law_made", "_law_more", "_law_number", "_law_less", "_law_due_here", "_law_told", "_law_spot", "_law_amount_here", "_law_one_told"]
def errs (z : Ad) : List Addr := [z.InvalidCapacity, z.TooLong]
def xtab (z : Ad) : XTab := [(z.InvalidCapacity, .ref z.AbsentError, false), (z.InvalidCapacity, .ref z.Contradiction, false), (z.InvalidCapacity, .ref z.DifferentModes, false), (z.InvalidCapacity, .ref z.EchoError, true), (z.InvalidCapacity, .ref z.Finished, false), (z.InvalidCapacity, .ref z.Full, false), (z.InvalidCapacity, .ref z.InvalidAccount, false), (z.InvalidCapacity, .ref z.InvalidBound, false), (z.InvalidCapacity, .ref z.InvalidCapacity, true), (z.InvalidCapacity, .ref z.InvalidMode, false), (z.InvalidCapacity, .ref z.InvalidNumber, false), (z.InvalidCapacity, .ref z.InvalidProgram, false), (z.InvalidCapacity, .ref z.InvalidReading, false), (z.InvalidCapacity, .ref z.InvalidRow, false), (z.InvalidCapacity, .ref z.InvalidTable, false), (z.InvalidCapacity, .ref z.InvalidText, false), (z.InvalidCapacity, .ty "LookupError", false), (z.InvalidCapacity, .ref z.Lossy, false), (z.InvalidCapacity, .ref z.NoName, false), (z.InvalidCapacity, .ref z.NoPlace, false), (z.InvalidCapacity, .ref z.NoPoint, false), (z.InvalidCapacity, .ref z.NoReading, false), (z.InvalidCapacity, .ref z.NothingToUndo, false), (z.InvalidCapacity, .ty "OverflowError", false), (z.InvalidCapacity, .ref z.SizeError, false), (z.InvalidCapacity, .ref z.TooLarge, false), (z.InvalidCapacity, .ref z.TooLong, false), (z.InvalidCapacity, .ref z.TooManyProcesses, false), (z.InvalidCapacity, .ref z.UnknownCommand, false), (z.InvalidCapacity, .ty "ValueError", true), (z.TooLong, .ref z.AbsentError, false), (z.TooLong, .ref z.Contradiction, false), (z.TooLong, .ref z.DifferentModes, false), (z.TooLong, .ref z.EchoError, false), (z.TooLong, .ref z.Finished, false), (z.TooLong, .ref z.Full, false), (z.TooLong, .ref z.InvalidAccount, false), (z.TooLong, .ref z.InvalidBound, false), (z.TooLong, .ref z.InvalidCapacity, false), (z.TooLong, .ref z.InvalidMode, false), (z.TooLong, .ref z.InvalidNumber, false), (z.TooLong, .ref z.InvalidProgram, false), (z.TooLong, .ref z.InvalidReading, false), (z.TooLong, .ref z.InvalidRow, false), (z.TooLong, .ref z.InvalidTable, false), (z.TooLong, .ref z.InvalidText, false), (z.TooLong, .ty "LookupError", false), (z.TooLong, .ref z.Lossy, false), (z.TooLong, .ref z.NoName, false), (z.TooLong, .ref z.NoPlace, false), (z.TooLong, .ref z.NoPoint, false), (z.TooLong, .ref z.NoReading, false), (z.TooLong, .ref z.NothingToUndo, false), (z.TooLong, .ty "OverflowError", true), (z.TooLong, .ref z.SizeError, true), (z.TooLong, .ref z.TooLarge, false), (z.TooLong, .ref z.TooLong, true), (z.TooLong, .ref z.TooManyProcesses, false), (z.TooLong, .ref z.UnknownCommand, false), (z.TooLong, .ty "ValueError", false)]
/-- the tables of the defs that make lambdas -/
def Tb (z : Ad) (h : AH) : Prop := h z.t0 = some (.tab (("_law_called_right" : Str) ++ ".<locals>." ++ "<lambda>")) ∧ h z.t1 = some (.tab (("_law_moved_right" : Str) ++ ".<locals>." ++ "<lambda>"))
def tooLong (z : Ad) (v : Int) : DX := .own z.TooLong [("length", .int v)]
/-- the greatest offset of rows that stand in order -/
def topI (es : Prs) : Int := (es.getLast?.map (·.1)).getD 0
/-- rows as the law draws them -/
structure Rws (rows : Prs) : Prop where
  inr : InR rows
  len : rows.length ≤ 6
  sm : ∀ e ∈ rows, e.2.natAbs < 2 ^ 100
def S_Ledger___mul__ (z : Ad) : FSpec := fun ds h Q _ => ∃ (es : Prs) (n : Int), ds = [ledD z.Ledger es, .int n] ∧ InR es ∧ es.length ≤ 10000 ∧ (∀ e ∈ es, MulOk e.2 n) ∧
  ∀ gs, Led gs (fun k => amt es k * n) → InR gs → gs.length ≤ es.length → Q (ledD z.Ledger gs) h
abbrev S_Ledger___neg__ (z : Ad) : FSpec := PQ.S_Ledger___neg__ z
abbrev S_Ledger___sub__ (z : Ad) : FSpec := PQ.S_Ledger___sub__ z
def S_Ledger_moved (z : Ad) : FSpec := fun ds h Q X => ∃ (es : Prs) (b : Int), ds = [ledD z.Ledger es, .int b] ∧ 0 ≤ b ∧ InR es ∧ Std es ∧ es.length ≤ 1000 ∧
  ((es = [] ∨ topI es + b ≤ 1000000) → Q (ledD z.Ledger (PN.movP b es)) h) ∧ (es ≠ [] → 1000000 < topI es + b → X (tooLong z (topI es + b)) h)
def S_Ledger___call__ (z : Ad) : FSpec := fun ds h Q X => ∃ es x t, ds = [ledD z.Ledger es, x] ∧ tyD h x = some t ∧ InR es ∧ es.length ≤ 10000 ∧ (∀ c : Int, x = .int c → 1 ≤ c → c ≤ 10 ^ 30 → Q (.int (lenAt es c)) h) ∧ (capB x = false → X (noCap z x) h)
/-- the word of an error, and what it holds -/
inductive Wrd (z : Ad) : Addr → List (Str × D) → Str → D → Prop where
  | cap (v : D) : Wrd z z.InvalidCapacity [("value", v)] "capacity" v
  | long (v : D) : Wrd z z.TooLong [("length", v)] "long" v
def S__law_word (z : Ad) : FSpec := fun ds h Q _ => ∃ C fs w v, ds = [.xob C fs] ∧ Wrd z C fs w v ∧ Q (.str w) h
def S__law_field (z : Ad) : FSpec := fun ds h Q _ => ∃ C fs w v, ds = [.str w, .xob C fs] ∧ Wrd z C fs w v ∧ Q (.lst [v]) h
def S__law_more_field (z : Ad) : FSpec := fun ds _ _ _ => ds.length = 2 ∧ False
def S__law_heard (z : Ad) : HSpec := fun tl h Q _ => tl h (fun d h' => Q (.lst [d]) h') (fun x h' => ∃ C fs w v, x = .own C fs ∧ Wrd z C fs w v ∧ Q (.tup [.str w, v]) h')
def S__law_offset (z : Ad) : FSpec := fun ds h Q _ => ∃ (n : Int) (p : Addr), ds = [.ref p] ∧ PenAt n h p ∧ n < 900000 ∧ ∀ v o, 0 ≤ v → v ≤ 1000000 → PenO (n + 4) o → Q (.int v) (up h p o)
def S__law_amount (z : Ad) : FSpec := fun ds h Q _ => ∃ (n : Int) (p : Addr), ds = [.ref p] ∧ PenAt n h p ∧ n < 900000 ∧ ∀ (v : Int) o, v.natAbs < 2 ^ 100 → PenO (n + 4) o → Q (.int v) (up h p o)
def S__law_rows (z : Ad) : FSpec := fun ds h Q _ => ∃ (n : Int) (p : Addr), ds = [.ref p, .int 6] ∧ PenAt n h p ∧ n < 800000 ∧ ∀ rows o, Rws rows → PenO (n + 60) o → Q (.lst (rows.map pairD)) (up h p o)
def S__law_sums (z : Ad) : FSpec := fun ds h Q _ => ∃ rows : Prs, ds = [.lst (rows.map pairD)] ∧ rows.length ≤ 1000 ∧ ∀ es, Led es (amt rows) → es.length ≤ rows.length → Q (.tup (es.map pairD)) h
def S__law_ledger (z : Ad) : FSpec := fun ds h Q _ => ∃ rows : Prs, ds = [.lst (rows.map pairD)] ∧ InR rows ∧ rows.length ≤ 6 ∧ ∀ gs, Led gs (amt rows) → InR gs → gs.length ≤ rows.length → Q (ledD z.Ledger gs) h
def S__law_due (z : Ad) : FSpec := fun ds h Q _ => ∃ (rows : Prs) (c : Int), ds = [.lst (rows.map pairD), .int c] ∧ InR rows ∧ rows.length ≤ 1000 ∧ 1 ≤ c ∧ c ≤ 10 ^ 30 ∧ Q (.int (lenAt rows c)) h
def S__law_capacity (z : Ad) : FSpec := fun ds h Q _ => ∃ (n : Int) (p : Addr) (xs : List Int), ds = [.ref p, .lst (xs.map .int)] ∧ PenAt n h p ∧ n < 900000 ∧ xs.length ≤ 10000 ∧ (∀ x ∈ xs, 0 ≤ x ∧ x ≤ 1000000) ∧ ∀ c o, 1 ≤ c → c ≤ 10 ^ 30 → PenO (n + 7) o → Q (.int c) (up h p o)
/-- what is no capacity -/
structure OddC (x : D) : Prop where
  bt : capB x = false
  ty : ∀ h, ∃ t, tyD h x = some t
  rq : Rq x 2 1000
def S__law_no_capacity (z : Ad) : FSpec := fun ds h Q _ => ∃ (n : Int) (p : Addr), ds = [.ref p] ∧ PenAt n h p ∧ n < 900000 ∧ ∀ x o, OddC x → PenO (n + 1) o → Q x (up h p o)
def S__law_moved_right (z : Ad) : FSpec := fun ds h Q _ => ∃ (n : Int) (p : Addr) (es : Prs), ds = [.ref p, ledD z.Ledger es, .tup (es.map pairD)] ∧ Tb z h ∧ PenAt n h p ∧ n < 900000 ∧ Std es ∧ InR es ∧ es.length ≤ 6 ∧ (∀ e ∈ es, e.2.natAbs < 2 ^ 200) ∧ ∀ o, PenO (n + 20) o → Q (.bl true) (up h p o)
def S__law_from_right (z : Ad) : FSpec := fun ds h Q _ => ∃ (n : Int) (p : Addr) (es : Prs), ds = [.ref p, ledD z.Ledger es, .tup (es.map pairD)] ∧ PenAt n h p ∧ n < 900000 ∧ InR es ∧ es.length ≤ 6 ∧ (∀ e ∈ es, e.2.natAbs < 2 ^ 200) ∧ ∀ o, PenO (n + 1) o → Q (.bl true) (up h p o)
def S__law_called_right (z : Ad) : FSpec := fun ds h Q _ => ∃ (n : Int) (p : Addr) (one other : Prs), ds = [.ref p, .lst (one.map pairD), .lst (other.map pairD)] ∧ Tb z h ∧ PenAt n h p ∧ n < 800000 ∧ Rws one ∧ Rws other ∧ ∀ o, PenO (n + 60) o → Q (.bl true) (up h p o)
def S_law (z : Ad) : FSpec := fun ds h Q _ => ∃ js : List Int, ds = [.lk (js.map D.int)] ∧ Tb z h ∧ ∀ h', Q (.bl true) h'
/-! ### the readings -/
def w_Ledger___neg__ (z : Ad) : WS := (wRet (wOp (dOwnI z.Ledger (S_Ledger___mul__ z)) (wVar 0) (wNeg (wC (.int 1)))))
def w_Ledger___sub__ (z : Ad) : WS := (wRet (wOp (dOwn2 z.Ledger (PL.S_Ledger___add__ z)) (wVar 0) (wNegO z.Ledger (S_Ledger___neg__ z) (wVar 1))))
def w_Ledger___mul__ (z : Ad) : WS := (wSeq (wAsg (wLc false (iTupD (wProp z.Ledger (PL.S_Ledger_rows z) (wVar 0))) (gT 2 (gsN [3, 4])) wYes (wTup (wCons (wVar 3) (wCons (wOp (dMul false) (wVar 4) (wVar 1)) wNil))) [3, 4]) (gN 2))
  (wRet (wMakeS z.Ledger (starS 1 (PL.S_Ledger___init__ z)) (wVar 2))))
def w_Ledger_moved (z : Ad) : WS := (wSeq (wIfS (wAnd (wTest (wOp (dCmpI fun i j => decide (j < i)) (wB (dLenO z.Ledger (PL.S_Ledger___len__ z)) (wCons (wVar 0) wNil)) (wC (.int 0)))) (wTest (wOp (dCmpI fun i j => decide (j < i)) (wOp (dAdd false) (wProp z.Ledger (PL.S_Ledger_greatest z) (wVar 0)) (wVar 1)) (wC (.int 1000000))))) (wRaise z.TooLong ["length"] (wCons (wOp (dAdd false) (wProp z.Ledger (PL.S_Ledger_greatest z) (wVar 0)) (wVar 1)) wNil)) wSkip)
  (wSeq (wAsg (wLc false (iTupD (wProp z.Ledger (PL.S_Ledger_rows z) (wVar 0))) (gT 2 (gsN [3, 4])) wYes (wTup (wCons (wOp (dAdd false) (wVar 3) (wVar 1)) (wCons (wVar 4) wNil))) [3, 4]) (gN 2))
  (wRet (wMakeS z.Ledger (starS 1 (PL.S_Ledger___init__ z)) (wVar 2)))))
def w_Ledger___call__ (z : Ad) : WS := (wSeq (wExpr (wCallP (PR.S_need_capacity z) 1 (fun ds _ => ds) (wCons (wVar 1) wNil)))
  (wRet (wMet z.Ledger "sum_at" (PL.S_Ledger_sum_at z) (wVar 0) (wCons (wVar 1) wNil))))
def w__law_word (z : Ad) : WS := (wSeq (wAsg (wLst false (wCons (wB (dIsX (xtab z)) (wCons (wVar 0) (wCons (wC (.ref z.InvalidMode)) wNil))) (wCons (wB (dIsX (xtab z)) (wCons (wVar 0) (wCons (wC (.ref z.InvalidNumber)) wNil))) (wCons (wB (dIsX (xtab z)) (wCons (wVar 0) (wCons (wC (.ref z.InvalidCapacity)) wNil))) wNil)))) (gN 1))
  (wSeq (wAsg (wOp (dAdd false) (wVar 1) (wLst false (wCons (wB (dIsX (xtab z)) (wCons (wVar 0) (wCons (wC (.ref z.InvalidReading)) wNil))) (wCons (wB (dIsX (xtab z)) (wCons (wVar 0) (wCons (wC (.ref z.InvalidBound)) wNil))) (wCons (wB (dIsX (xtab z)) (wCons (wVar 0) (wCons (wC (.ref z.InvalidProgram)) wNil))) wNil))))) (gN 1))
  (wSeq (wAsg (wOp (dAdd false) (wVar 1) (wLst false (wCons (wB (dIsX (xtab z)) (wCons (wVar 0) (wCons (wC (.ref z.InvalidRow)) wNil))) (wCons (wB (dIsX (xtab z)) (wCons (wVar 0) (wCons (wC (.ref z.InvalidTable)) wNil))) (wCons (wB (dIsX (xtab z)) (wCons (wVar 0) (wCons (wC (.ref z.InvalidAccount)) wNil))) wNil))))) (gN 1))
  (wSeq (wAsg (wOp (dAdd false) (wVar 1) (wLst false (wCons (wB (dIsX (xtab z)) (wCons (wVar 0) (wCons (wC (.ref z.InvalidText)) wNil))) (wCons (wB (dIsX (xtab z)) (wCons (wVar 0) (wCons (wC (.ref z.Lossy)) wNil))) (wCons (wB (dIsX (xtab z)) (wCons (wVar 0) (wCons (wC (.ref z.DifferentModes)) wNil))) wNil))))) (gN 1))
  (wSeq (wAsg (wOp (dAdd false) (wVar 1) (wLst false (wCons (wB (dIsX (xtab z)) (wCons (wVar 0) (wCons (wC (.ref z.Contradiction)) wNil))) (wCons (wB (dIsX (xtab z)) (wCons (wVar 0) (wCons (wC (.ref z.UnknownCommand)) wNil))) (wCons (wB (dIsX (xtab z)) (wCons (wVar 0) (wCons (wC (.ref z.TooLarge)) wNil))) wNil))))) (gN 1))
  (wSeq (wAsg (wOp (dAdd false) (wVar 1) (wLst false (wCons (wB (dIsX (xtab z)) (wCons (wVar 0) (wCons (wC (.ref z.TooLong)) wNil))) (wCons (wB (dIsX (xtab z)) (wCons (wVar 0) (wCons (wC (.ref z.TooManyProcesses)) wNil))) (wCons (wB (dIsX (xtab z)) (wCons (wVar 0) (wCons (wC (.ref z.Full)) wNil))) wNil))))) (gN 1))
  (wSeq (wAsg (wOp (dAdd false) (wVar 1) (wLst false (wCons (wB (dIsX (xtab z)) (wCons (wVar 0) (wCons (wC (.ref z.NoPlace)) wNil))) (wCons (wB (dIsX (xtab z)) (wCons (wVar 0) (wCons (wC (.ref z.NoPoint)) wNil))) (wCons (wB (dIsX (xtab z)) (wCons (wVar 0) (wCons (wC (.ref z.NoReading)) wNil))) wNil))))) (gN 1))
  (wSeq (wAsg (wOp (dAdd false) (wVar 1) (wLst false (wCons (wB (dIsX (xtab z)) (wCons (wVar 0) (wCons (wC (.ref z.NoName)) wNil))) (wCons (wB (dIsX (xtab z)) (wCons (wVar 0) (wCons (wC (.ref z.NothingToUndo)) wNil))) (wCons (wB (dIsX (xtab z)) (wCons (wVar 0) (wCons (wC (.ref z.Finished)) wNil))) wNil))))) (gN 1))
  (wSeq (wIfS (wTest (wOp (dEq fun b => !b) (wMethT isL dCountB (wVar 1) (wCons (wC (.bl true)) wNil)) (wC (.int 1)))) (wRet (wC (.str "odd"))) wSkip)
  (wSeq (wAsg (wMethT isL dIndexB (wVar 1) (wCons (wC (.bl true)) wNil)) (gN 2))
  (wSeq (wAsg (wLst true (wCons (wB (dIsX (xtab z)) (wCons (wVar 0) (wCons (wC (.ref z.EchoError)) wNil))) (wCons (wB (dIsX (xtab z)) (wCons (wVar 0) (wCons (wC (.ref z.SizeError)) wNil))) (wCons (wB (dIsX (xtab z)) (wCons (wVar 0) (wCons (wC (.ref z.AbsentError)) wNil))) wNil)))) (gN 3))
  (wSeq (wExpr (wMethT isL dAppend (wVar 3) (wCons (wOp dIx (wLst false (wCons (wB (dIsX (xtab z)) (wCons (wVar 0) (wCons (wC (.ty "ValueError")) wNil))) (wCons (wB (dIsX (xtab z)) (wCons (wVar 0) (wCons (wC (.ty "OverflowError")) wNil))) (wCons (wB (dIsX (xtab z)) (wCons (wVar 0) (wCons (wC (.ty "LookupError")) wNil))) wNil)))) (wOp (dAdd false) (wB dInt (wCons (wOp (dCmpI fun i j => decide (j < i)) (wVar 2) (wC (.int 13))) wNil)) (wB dInt (wCons (wOp (dCmpI fun i j => decide (j < i)) (wVar 2) (wC (.int 17))) wNil)))) wNil)))
  (wSeq (wAsg (wLst false (wCons (wC (.str "mode")) (wCons (wC (.str "number")) (wCons (wC (.str "capacity")) (wCons (wC (.str "reading")) (wCons (wC (.str "bound")) (wCons (wC (.str "program")) (wCons (wC (.str "row")) (wCons (wC (.str "table")) (wCons (wC (.str "account")) (wCons (wC (.str "text")) (wCons (wC (.str "lossy")) wNil)))))))))))) (gN 4))
  (wSeq (wAsg (wOp (dAdd false) (wVar 4) (wLst false (wCons (wC (.str "modes")) (wCons (wC (.str "against")) (wCons (wC (.str "command")) (wCons (wC (.str "large")) (wCons (wC (.str "long")) (wCons (wC (.str "processes")) (wCons (wC (.str "full")) (wCons (wC (.str "place")) (wCons (wC (.str "point")) (wCons (wC (.str "unread")) wNil)))))))))))) (gN 4))
  (wSeq (wAsg (wOp (dAdd false) (wVar 4) (wLst false (wCons (wC (.str "name")) (wCons (wC (.str "undo")) (wCons (wC (.str "finished")) wNil))))) (gN 4))
  (wRet (wIf (wTest (wOp (dEq fun b => b) (wVar 3) (wLst false (wCons (wOp (dCmpI fun i j => decide (i < j)) (wVar 2) (wC (.int 14))) (wCons (wChain (dCmpI fun i j => decide (i < j)) (dCmpI fun i j => decide (i < j)) (wC (.int 13)) (wVar 2) (wC (.int 18))) (wCons (wOp (dCmpI fun i j => decide (j < i)) (wVar 2) (wC (.int 17))) (wCons (wC (.bl true)) wNil))))))) (wOp dIx (wVar 4) (wVar 2)) (wC (.str "odd")))))))))))))))))))
def w__law_field (z : Ad) : WS := (wSeq (wIfS (wTest (wOp (dIn false) (wVar 0) (wTup (wCons (wC (.str "mode")) (wCons (wC (.str "number")) (wCons (wC (.str "capacity")) (wCons (wC (.str "reading")) (wCons (wC (.str "bound")) wNil)))))))) (wRet (wLst false (wCons (wXFld [z.InvalidCapacity] "value" (wVar 1)) wNil))) wSkip)
  (wSeq (wIfS (wTest (wOp (dIn false) (wVar 0) (wTup (wCons (wC (.str "program")) (wCons (wC (.str "place")) wNil))))) (wRet (wLst false (wCons (wXFld [] "place" (wVar 1)) wNil))) wSkip)
  (wSeq (wIfS (wTest (wOp (dIn false) (wVar 0) (wTup (wCons (wC (.str "row")) (wCons (wC (.str "table")) wNil))))) (wRet (wLst false (wCons (wXFld [] "index" (wVar 1)) wNil))) wSkip)
  (wSeq (wIfS (wTest (wOp (dIn false) (wVar 0) (wTup (wCons (wC (.str "lossy")) (wCons (wC (.str "point")) wNil))))) (wRet (wLst false (wCons (wXFld [] "point" (wVar 1)) wNil))) wSkip)
  (wSeq (wIfS (wTest (wOp (dEq fun b => b) (wVar 0) (wC (.str "text")))) (wRet (wLst false (wCons (wXFld [] "line" (wVar 1)) (wCons (wXFld [] "word" (wVar 1)) wNil)))) wSkip)
  (wSeq (wIfS (wTest (wOp (dEq fun b => b) (wVar 0) (wC (.str "against")))) (wRet (wLst false (wCons (wXFld [] "first" (wVar 1)) (wCons (wXFld [] "second" (wVar 1)) wNil)))) wSkip)
  (wSeq (wIfS (wTest (wOp (dEq fun b => b) (wVar 0) (wC (.str "command")))) (wRet (wLst false (wCons (wXFld [] "command" (wVar 1)) wNil))) wSkip)
  (wSeq (wIfS (wTest (wOp (dEq fun b => b) (wVar 0) (wC (.str "large")))) (wRet (wLst false (wCons (wXFld [] "points" (wVar 1)) wNil))) wSkip)
  (wSeq (wIfS (wTest (wOp (dEq fun b => b) (wVar 0) (wC (.str "long")))) (wRet (wLst false (wCons (wXFld [z.TooLong] "length" (wVar 1)) wNil))) wSkip)
  (wRet (wCallP (S__law_more_field z) 2 (fun ds _ => ds) (wCons (wVar 0) (wCons (wVar 1) wNil)))))))))))))
def w__law_more_field (z : Ad) : WS := (wSeq (wIfS (wTest (wOp (dEq fun b => b) (wVar 0) (wC (.str "processes")))) (wRet (wLst false (wCons (wXFld [] "number" (wVar 1)) wNil))) wSkip)
  (wSeq (wIfS (wTest (wOp (dEq fun b => b) (wVar 0) (wC (.str "full")))) (wRet (wLst false (wCons (wXFld [] "limit" (wVar 1)) wNil))) wSkip)
  (wSeq (wIfS (wTest (wOp (dEq fun b => b) (wVar 0) (wC (.str "unread")))) (wRet (wLst false (wCons (wXFld [] "asked" (wVar 1)) wNil))) wSkip)
  (wSeq (wIfS (wTest (wOp (dEq fun b => b) (wVar 0) (wC (.str "name")))) (wRet (wLst false (wCons (wXFld [] "name" (wVar 1)) wNil))) wSkip)
  (wRet (wIf (wTest (wOp (dEq fun b => b) (wVar 0) (wC (.str "undo")))) (wLst false (wCons (wXFld [] "count" (wVar 1)) wNil)) (wLst false wNil)))))))
def w__law_heard (z : Ad) (d : D) (tl : Thk) : WS := (wSeq (wAsg (wC .non) (gN 1))
  (wSeq (wTry (errs z) 4 1 (wRet (wLst false (wCons (wAct 0 d tl) wNil))))
  (wSeq (wAsg (wCallP (S__law_word z) 1 (fun ds _ => ds) (wCons (wVar 1) wNil)) (gN 3))
  (wRet (wB dTupOf (wCons (wOp (dAdd false) (wLst false (wCons (wVar 3) wNil)) (wCallP (S__law_field z) 2 (fun ds _ => ds) (wCons (wVar 3) (wCons (wVar 1) wNil)))) wNil))))))
def w__law_offset (z : Ad) : WS := (wRet (wOp dIx (wLst false (wCons (wCallP (F4.S__law_draw z) 2 (fun ds _ => ds) (wCons (wVar 0) (wCons (wC (.int 3)) wNil))) (wCons (wCallP (F4.S__law_draw z) 2 (fun ds _ => ds) (wCons (wVar 0) (wCons (wC (.int 40)) wNil))) (wCons (wOp dSub (wOp dPow (wC (.int 10)) (wC (.int 6))) (wCallP (F4.S__law_draw z) 2 (fun ds _ => ds) (wCons (wVar 0) (wCons (wC (.int 3)) wNil)))) (wCons (wC (.int 2520)) wNil))))) (wCallP (F4.S__law_draw z) 2 (fun ds _ => ds) (wCons (wVar 0) (wCons (wC (.int 4)) wNil)))))
def w__law_amount (z : Ad) : WS := (wSeq (wAsg (wLst false (wCons (wOp dSub (wCallP (F4.S__law_draw z) 2 (fun ds _ => ds) (wCons (wVar 0) (wCons (wC (.int 7)) wNil))) (wC (.int 3))) (wCons (wOp dSub (wOp dPow (wC (.int 10)) (wC (.int 30))) (wCallP (F4.S__law_draw z) 2 (fun ds _ => ds) (wCons (wVar 0) (wCons (wC (.int 5)) wNil)))) (wCons (wOp dSub (wC (.int 0)) (wOp (dMul false) (wOp dPow (wC (.int 2)) (wC (.int 45))) (wOp dPow (wC (.int 2)) (wC (.int 45))))) (wCons (wOp dIx (wLst false (wCons (wC (.int 1)) (wCons (wNeg (wC (.int 1))) wNil))) (wCallP (F4.S__law_draw z) 2 (fun ds _ => ds) (wCons (wVar 0) (wCons (wC (.int 2)) wNil)))) wNil))))) (gN 1))
  (wRet (wOp dIx (wVar 1) (wOp dIx (wLst false (wCons (wC (.int 0)) (wCons (wC (.int 0)) (wCons (wC (.int 3)) (wCons (wC (.int 3)) (wCons (wC (.int 1)) (wCons (wC (.int 2)) wNil))))))) (wCallP (F4.S__law_draw z) 2 (fun ds _ => ds) (wCons (wVar 0) (wCons (wC (.int 6)) wNil)))))))
def w__law_rows (z : Ad) : WS := (wSeq (wAsg (wLst true wNil) (gN 2))
  (wSeq (wFor (iRng1 (wCons (wCallP (F4.S__law_draw z) 2 (fun ds _ => ds) (wCons (wVar 0) (wCons (wOp (dAdd false) (wVar 1) (wC (.int 1))) wNil))) wNil)) (gN 3) (wSeq (wAsg (wTup (wCons (wCallP (S__law_offset z) 1 (fun ds _ => ds) (wCons (wVar 0) wNil)) (wCons (wCallP (S__law_amount z) 1 (fun ds _ => ds) (wCons (wVar 0) wNil)) wNil))) (gN 4))
  (wSeq (wIfS (wAnd (wTest (wOp (dEq fun b => !b) (wVar 2) (wLst false wNil))) (wTest (wOp (dEq fun b => b) (wCallP (F4.S__law_draw z) 2 (fun ds _ => ds) (wCons (wVar 0) (wCons (wC (.int 4)) wNil))) (wC (.int 0))))) (wAsg (wTup (wCons (wOp dIx (wOp dIx (wVar 2) (wNeg (wC (.int 1)))) (wC (.int 0))) (wCons (wOp dSub (wC (.int 0)) (wOp dIx (wOp dIx (wVar 2) (wNeg (wC (.int 1)))) (wC (.int 1)))) wNil))) (gN 4)) wSkip)
  (wExpr (wMethT isL dAppend (wVar 2) (wCons (wVar 4) wNil))))))
  (wRet (wVar 2))))
def w__law_sums (z : Ad) : WS := (wSeq (wAsg wDnew (gN 1))
  (wSeq (wFor (iSeq (wVar 0)) (gT 2 (gsCons (gN 2) (gsCons (gN 3) gsNil))) (wDput (wVar 1) (wVar 2) (wOp (dAdd false) (wGet2 (wVar 1) (wVar 2) (wC (.int 0))) (wVar 3))))
  (wRet (wB dTupOf (wCons (wLc false (iSeq (wB (dSortD false) (wCons (wVar 1) wNil))) (gN 2) (wTest (wOp (dEq fun b => !b) (wDGet (wVar 1) (wVar 2)) (wC (.int 0)))) (wTup (wCons (wVar 2) (wCons (wDGet (wVar 1) (wVar 2)) wNil))) [2]) wNil)))))
def w__law_ledger (z : Ad) : WS := (wSeq (wIfS (wTest (wOp (dCmpI fun i j => decide (i < j)) (wB dLen (wCons (wVar 0) wNil)) (wC (.int 2)))) (wRet (wIf (wTest (wOp (dEq fun b => !b) (wVar 0) (wLst false wNil))) (wMake z.Ledger (starS 1 (PL.S_Ledger___init__ z)) (wCons (wOp dIx (wVar 0) (wC (.int 0))) wNil)) (wMake z.Ledger (starS 1 (PL.S_Ledger___init__ z)) wNil))) wSkip)
  (wSeq (wIfS (wTest (wOp (dEq fun b => b) (wB dLen (wCons (wVar 0) wNil)) (wC (.int 2)))) (wRet (wMake z.Ledger (starS 1 (PL.S_Ledger___init__ z)) (wCons (wOp dIx (wVar 0) (wC (.int 0))) (wCons (wOp dIx (wVar 0) (wC (.int 1))) wNil)))) wSkip)
  (wSeq (wIfS (wTest (wOp (dEq fun b => b) (wB dLen (wCons (wVar 0) wNil)) (wC (.int 3)))) (wRet (wMake z.Ledger (starS 1 (PL.S_Ledger___init__ z)) (wCons (wOp dIx (wVar 0) (wC (.int 0))) (wCons (wOp dIx (wVar 0) (wC (.int 1))) (wCons (wOp dIx (wVar 0) (wC (.int 2))) wNil))))) wSkip)
  (wSeq (wIfS (wTest (wOp (dEq fun b => b) (wB dLen (wCons (wVar 0) wNil)) (wC (.int 4)))) (wRet (wMake z.Ledger (starS 1 (PL.S_Ledger___init__ z)) (wCons (wOp dIx (wVar 0) (wC (.int 0))) (wCons (wOp dIx (wVar 0) (wC (.int 1))) (wCons (wOp dIx (wVar 0) (wC (.int 2))) (wCons (wOp dIx (wVar 0) (wC (.int 3))) wNil)))))) wSkip)
  (wSeq (wIfS (wTest (wOp (dEq fun b => b) (wB dLen (wCons (wVar 0) wNil)) (wC (.int 5)))) (wRet (wMake z.Ledger (starS 1 (PL.S_Ledger___init__ z)) (wCons (wOp dIx (wVar 0) (wC (.int 0))) (wCons (wOp dIx (wVar 0) (wC (.int 1))) (wCons (wOp dIx (wVar 0) (wC (.int 2))) (wCons (wOp dIx (wVar 0) (wC (.int 3))) (wCons (wOp dIx (wVar 0) (wC (.int 4))) wNil))))))) wSkip)
  (wRet (wMake z.Ledger (starS 1 (PL.S_Ledger___init__ z)) (wCons (wOp dIx (wVar 0) (wC (.int 0))) (wCons (wOp dIx (wVar 0) (wC (.int 1))) (wCons (wOp dIx (wVar 0) (wC (.int 2))) (wCons (wOp dIx (wVar 0) (wC (.int 3))) (wCons (wOp dIx (wVar 0) (wC (.int 4))) (wCons (wOp dIx (wVar 0) (wC (.int 5))) wNil)))))))))))))
def w__law_moved_right (z : Ad) : WS := (wSeq (wFor (iRng1 (wCons (wC (.int 3)) wNil)) (gN 3) (wSeq (wAsg (wOp dIx (wLst false (wCons (wCallP (F4.S__law_draw z) 2 (fun ds _ => ds) (wCons (wVar 0) (wCons (wC (.int 50)) wNil))) (wCons (wOp dSub (wOp dPow (wC (.int 10)) (wC (.int 6))) (wIf (wTest (wOp (dEq fun b => !b) (wVar 2) (wTup wNil))) (wOp dIx (wOp dIx (wVar 2) (wNeg (wC (.int 1)))) (wC (.int 0))) (wC (.int 0)))) (wCons (wOp dPow (wC (.int 10)) (wC (.int 6))) (wCons (wC (.int 0)) wNil))))) (wCallP (F4.S__law_draw z) 2 (fun ds _ => ds) (wCons (wVar 0) (wCons (wC (.int 4)) wNil)))) (gN 4))
  (wSeq (wAsg (wB dMin2 (wCons (wOp dPow (wC (.int 10)) (wC (.int 6))) (wCons (wB dMax2 (wCons (wC (.int 0)) (wCons (wOp dSub (wOp (dAdd false) (wVar 4) (wCallP (F4.S__law_draw z) 2 (fun ds _ => ds) (wCons (wVar 0) (wCons (wC (.int 3)) wNil)))) (wC (.int 1))) wNil))) wNil))) (gN 4))
  (wSeq (wAsg (wHeard (S__law_heard z) z.t1 (("_law_moved_right" : Str) ++ ".<locals>." ++ "<lambda>") (wProp z.Ledger (PL.S_Ledger_rows z) (wMet z.Ledger "moved" (S_Ledger_moved z) (wVar 1) (wCons (wVar 4) wNil)))) (gN 5))
  (wSeq (wAsg (wLst false (wCons (wB dTupOf (wCons (wLc false (iTupD (wVar 2)) (gT 2 (gsN [7, 8])) wYes (wTup (wCons (wOp (dAdd false) (wVar 7) (wVar 4)) (wCons (wVar 8) wNil))) [7, 8]) wNil)) wNil)) (gN 6))
  (wSeq (wIfS (wAnd (wTest (wOp (dEq fun b => !b) (wVar 2) (wTup wNil))) (wTest (wOp (dCmpI fun i j => decide (j < i)) (wOp (dAdd false) (wOp dIx (wOp dIx (wVar 2) (wNeg (wC (.int 1)))) (wC (.int 0))) (wVar 4)) (wOp dPow (wC (.int 10)) (wC (.int 6)))))) (wAsg (wTup (wCons (wC (.str "long")) (wCons (wOp (dAdd false) (wOp dIx (wOp dIx (wVar 2) (wNeg (wC (.int 1)))) (wC (.int 0))) (wVar 4)) wNil))) (gN 6)) wSkip)
  (wIfS (wOr (wTest (wOp (dEq fun b => !b) (wB dRepr (wCons (wVar 5) wNil)) (wB dRepr (wCons (wVar 6) wNil)))) (wTest (wOp (dEq fun b => !b) (wB dRepr (wCons (wHeard (S__law_heard z) z.t1 (("_law_moved_right" : Str) ++ ".<locals>." ++ "<lambda>") (wProp z.Ledger (PL.S_Ledger_rows z) (wMetK z.Ledger "moved" (S_Ledger_moved z) 1 (pickD [0, 1]) (wVar 1) (wCons (wVar 4) wNil)))) wNil)) (wB dRepr (wCons (wVar 6) wNil))))) (wRet (wC (.bl false))) wSkip)))))))
  (wRet (wC (.bl true))))
def w__law_from_right (z : Ad) : WS := (wSeq (wAsg (wOp (dAdd false) (wLst false (wCons (wC (.int 0)) (wCons (wNeg (wC (.int 5))) (wCons (wOp dPow (wC (.int 10)) (wC (.int 6))) (wCons (wOp (dAdd false) (wOp dPow (wC (.int 10)) (wC (.int 6))) (wC (.int 1))) (wCons (wC (.int 2520)) (wCons (wC (.int 2521)) (wCons (wCallP (F4.S__law_draw z) 2 (fun ds _ => ds) (wCons (wVar 0) (wCons (wC (.int 45)) wNil))) wNil)))))))) (wLc false (iTupD (wVar 2)) (gT 2 (gsN [4, 6])) wYes (wVar 4) [4, 6])) (gN 3))
  (wSeq (wFor (iSeq (wVar 3)) (gN 4) (wSeq (wAsg (wB dSum (wCons (wLc false (iTupD (wVar 2)) (gT 2 (gsN [7, 6])) (wTest (wOp (dCmpI fun i j => decide (j ≤ i)) (wVar 7) (wVar 4))) (wVar 6) [7, 6]) wNil)) (gN 5))
  (wIfS (wTest (wOp (dEq fun b => !b) (wB dRepr (wCons (wLst false (wCons (wMet z.Ledger "from_offset" (PB.S_Ledger_from_offset z) (wVar 1) (wCons (wVar 4) wNil)) (wCons (wMetK z.Ledger "from_offset" (PB.S_Ledger_from_offset z) 1 (pickD [0, 1]) (wVar 1) (wCons (wVar 4) wNil)) wNil))) wNil)) (wB dRepr (wCons (wLst false (wCons (wVar 5) (wCons (wVar 5) wNil))) wNil)))) (wRet (wC (.bl false))) wSkip)))
  (wRet (wC (.bl true)))))
def w__law_capacity (z : Ad) : WS := (wSeq (wAsg (wLst true (wCons (wOp (dAdd false) (wC (.int 1)) (wCallP (F4.S__law_draw z) 2 (fun ds _ => ds) (wCons (wVar 0) (wCons (wC (.int 12)) wNil)))) (wCons (wOp (dAdd false) (wC (.int 1)) (wCallP (F4.S__law_draw z) 2 (fun ds _ => ds) (wCons (wVar 0) (wCons (wC (.int 3000)) wNil)))) (wCons (wOp (dAdd false) (wOp dPow (wC (.int 10)) (wC (.int 6))) (wCallP (F4.S__law_draw z) 2 (fun ds _ => ds) (wCons (wVar 0) (wCons (wC (.int 3)) wNil)))) (wCons (wOp dPow (wC (.int 10)) (wC (.int 30))) wNil))))) (gN 2))
  (wSeq (wExpr (wMethT isL dAppend (wVar 2) (wCons (wOp (dAdd false) (wC (.int 1)) (wCallP (F4.S__law_draw z) 2 (fun ds _ => ds) (wCons (wVar 0) (wCons (wOp dPow (wC (.int 10)) (wC (.int 30))) wNil)))) wNil)))
  (wSeq (wAsg (wOp dIx (wOp (dAdd false) (wLst false (wCons (wC (.int 1)) wNil)) (wVar 1)) (wCallP (F4.S__law_draw z) 2 (fun ds _ => ds) (wCons (wVar 0) (wCons (wOp (dAdd false) (wB dLen (wCons (wVar 1) wNil)) (wC (.int 1))) wNil)))) (gN 3))
  (wSeq (wExpr (wMethT isL dAppend (wVar 2) (wCons (wB dMax2 (wCons (wC (.int 1)) (wCons (wOp dSub (wOp (dAdd false) (wVar 3) (wCallP (F4.S__law_draw z) 2 (fun ds _ => ds) (wCons (wVar 0) (wCons (wC (.int 3)) wNil)))) (wC (.int 1))) wNil))) wNil)))
  (wRet (wOp dIx (wVar 2) (wCallP (F4.S__law_draw z) 2 (fun ds _ => ds) (wCons (wVar 0) (wCons (wC (.int 6)) wNil)))))))))
def w__law_no_capacity (z : Ad) : WS := (wSeq (wAsg (wLst false (wCons (wC (.int 0)) (wCons (wNeg (wC (.int 1))) (wCons (wOp (dAdd false) (wOp dPow (wC (.int 10)) (wC (.int 30))) (wC (.int 1))) (wCons (wC (.bl true)) (wCons (wC (.bl false)) (wCons (wC .non) (wCons (wC (.str "1")) (wCons (wTup (wCons (wC (.int 1)) wNil)) (wCons (wLst false (wCons (wC (.int 2)) wNil)) (wCons wDnewF (wCons (wOp dPow (wC (.int 10)) (wC (.int 59))) (wCons (wC (.str "")) (wCons (wTup (wCons (wLst false (wCons (wC (.int 1)) wNil)) wNil)) wNil)))))))))))))) (gN 1))
  (wRet (wOp dIx (wVar 1) (wCallP (F4.S__law_draw z) 2 (fun ds _ => ds) (wCons (wVar 0) (wCons (wC (.int 13)) wNil))))))
def w__law_due (z : Ad) : WS := (wSeq (wAsg (wC (.int 0)) (gN 2))
  (wSeq (wFor (iSeq (wVar 0)) (gT 2 (gsCons (gN 3) (gsCons (gN 4) gsNil))) (wAsg (wOp (dAdd false) (wVar 2) (wOp (dMul false) (wVar 4) (wOp dSub (wVar 3) (wOp (dMul false) (wOp dDiv (wVar 3) (wVar 1)) (wVar 1))))) (gN 2)))
  (wRet (wVar 2))))
def w__law_called_right (z : Ad) : WS := (wSeq (wAsg (wTup (wCons (wCallP (S__law_ledger z) 1 (fun ds _ => ds) (wCons (wVar 1) wNil)) (wCons (wCallP (S__law_ledger z) 1 (fun ds _ => ds) (wCons (wVar 2) wNil)) wNil))) (gT 2 (gsCons (gN 3) (gsCons (gN 4) gsNil))))
  (wSeq (wFor (iRng1 (wCons (wC (.int 6)) wNil)) (gN 5) (wSeq (wAsg (wCallP (S__law_capacity z) 2 (fun ds _ => ds) (wCons (wVar 0) (wCons (wLc false (iSeq (wVar 1)) (gT 2 (gsN [10, 11])) wYes (wVar 10) [10, 11]) wNil))) (gN 6))
  (wSeq (wAsg (wCallP (S__law_due z) 2 (fun ds _ => ds) (wCons (wVar 1) (wCons (wVar 6) wNil))) (gN 7))
  (wSeq (wIfS (wTest (wOp (dEq fun b => !b) (wB dReprQ (wCons (wLst false (wCons (wCalO z.Ledger (S_Ledger___call__ z) (wVar 3) (wCons (wVar 6) wNil)) (wCons (wCalK z.Ledger (S_Ledger___call__ z) 1 (pickD [0, 1]) (wVar 3) (wCons (wVar 6) wNil)) wNil))) wNil)) (wB dReprQ (wCons (wLst false (wCons (wVar 7) (wCons (wVar 7) wNil))) wNil)))) (wRet (wC (.bl false))) wSkip)
  (wSeq (wIfS (wTest (wOp (dEq fun b => !b) (wCalO z.Ledger (S_Ledger___call__ z) (wOp (dOwn2 z.Ledger (PL.S_Ledger___add__ z)) (wVar 3) (wVar 4)) (wCons (wVar 6) wNil)) (wOp (dAdd false) (wVar 7) (wCallP (S__law_due z) 2 (fun ds _ => ds) (wCons (wVar 2) (wCons (wVar 6) wNil)))))) (wRet (wC (.bl false))) wSkip)
  (wIfS (wTest (wOp (dEq fun b => !b) (wCalO z.Ledger (S_Ledger___call__ z) (wOp (dOwnI z.Ledger (S_Ledger___mul__ z)) (wVar 3) (wNeg (wC (.int 3)))) (wCons (wVar 6) wNil)) (wOp (dMul false) (wNeg (wC (.int 3))) (wVar 7)))) (wRet (wC (.bl false))) wSkip))))))
  (wSeq (wAsg (wB dSum (wCons (wLc false (iSeq (wVar 1)) (gT 2 (gsN [10, 11])) wYes (wOp (dMul false) (wVar 10) (wVar 11)) [10, 11]) wNil)) (gN 8))
  (wSeq (wIfS (wOr (wTest (wOp (dEq fun b => !b) (wCalO z.Ledger (S_Ledger___call__ z) (wVar 3) (wCons (wOp dPow (wC (.int 10)) (wC (.int 30))) wNil)) (wVar 8))) (wTest (wOp (dEq fun b => !b) (wCalO z.Ledger (S_Ledger___call__ z) (wVar 3) (wCons (wC (.int 1)) wNil)) (wC (.int 0))))) (wRet (wC (.bl false))) wSkip)
  (wSeq (wAsg (wCallP (S__law_no_capacity z) 1 (fun ds _ => ds) (wCons (wVar 0) wNil)) (gN 9))
  (wRet (wOp (dEq fun b => b) (wB dReprQ (wCons (wHeard (S__law_heard z) z.t0 (("_law_called_right" : Str) ++ ".<locals>." ++ "<lambda>") (wCalO z.Ledger (S_Ledger___call__ z) (wVar 3) (wCons (wVar 9) wNil))) wNil)) (wB dReprQ (wCons (wTup (wCons (wC (.str "capacity")) (wCons (wVar 9) wNil))) wNil)))))))))
def w_law (z : Ad) : WS := (wSeq (wAsg (wCallP (F4.S__law_pen z) 1 (fun ds _ => ds) (wCons (wVar 0) wNil)) (gN 1))
  (wSeq (wFor (iRng1 (wCons (wC (.int 4)) wNil)) (gN 2) (wSeq (wPar 3 4 (wCons (wCallP (S__law_rows z) 2 (fun ds _ => ds) (wCons (wVar 1) (wCons (wC (.int 6)) wNil))) (wCons (wCallP (S__law_rows z) 2 (fun ds _ => ds) (wCons (wVar 1) (wCons (wC (.int 6)) wNil))) wNil)))
  (wSeq (wIfS (wTest (wOp (dEq fun b => b) (wCallP (F4.S__law_draw z) 2 (fun ds _ => ds) (wCons (wVar 1) (wCons (wC (.int 3)) wNil))) (wC (.int 0)))) (wAsg (wLc false (iSeq (wVar 3)) (gT 2 (gsN [11, 12])) wYes (wTup (wCons (wVar 11) (wCons (wOp dSub (wC (.int 0)) (wVar 12)) wNil))) [11, 12]) (gN 4)) wSkip)
  (wSeq (wPar 5 6 (wCons (wCallP (S__law_ledger z) 1 (fun ds _ => ds) (wCons (wVar 3) wNil)) (wCons (wCallP (S__law_ledger z) 1 (fun ds _ => ds) (wCons (wVar 4) wNil)) wNil)))
  (wSeq (wAsg (wOp dIx (wLst false (wCons (wC (.int 0)) (wCons (wC (.int 1)) (wCons (wNeg (wC (.int 1))) (wCons (wOp dSub (wCallP (F4.S__law_draw z) 2 (fun ds _ => ds) (wCons (wVar 1) (wCons (wC (.int 21)) wNil))) (wC (.int 10))) (wCons (wOp dPow (wC (.int 10)) (wC (.int 20))) wNil)))))) (wCallP (F4.S__law_draw z) 2 (fun ds _ => ds) (wCons (wVar 1) (wCons (wC (.int 5)) wNil)))) (gN 7))
  (wSeq (wAsg (wLc false (iSeq (wVar 4)) (gT 2 (gsN [11, 12])) wYes (wTup (wCons (wVar 11) (wCons (wOp dSub (wC (.int 0)) (wVar 12)) wNil))) [11, 12]) (gN 8))
  (wSeq (wAsg (wLst true (wCons (wCallP (S__law_sums z) 1 (fun ds _ => ds) (wCons (wOp (dAdd false) (wVar 3) (wVar 4)) wNil)) (wCons (wCallP (S__law_sums z) 1 (fun ds _ => ds) (wCons (wOp (dAdd false) (wVar 3) (wVar 8)) wNil)) (wCons (wCallP (S__law_sums z) 1 (fun ds _ => ds) (wCons (wVar 8) wNil)) wNil)))) (gN 9))
  (wSeq (wExpr (wMethT isL dAppend (wVar 9) (wCons (wCallP (S__law_sums z) 1 (fun ds _ => ds) (wCons (wLc false (iSeq (wVar 3)) (gT 2 (gsN [11, 12])) wYes (wTup (wCons (wVar 11) (wCons (wOp (dMul false) (wVar 12) (wVar 7)) wNil))) [11, 12]) wNil)) wNil)))
  (wSeq (wAsg (wLst false (wCons (wOp (dOwn2 z.Ledger (PL.S_Ledger___add__ z)) (wVar 5) (wVar 6)) (wCons (wOp (dOwn2 z.Ledger (S_Ledger___sub__ z)) (wVar 5) (wVar 6)) (wCons (wNegO z.Ledger (S_Ledger___neg__ z) (wVar 6)) (wCons (wOp (dOwnI z.Ledger (S_Ledger___mul__ z)) (wVar 5) (wVar 7)) wNil))))) (gN 10))
  (wSeq (wIfS (wTest (wOp (dEq fun b => !b) (wB dRepr (wCons (wLc false (iSeq (wVar 10)) (gN 13) wYes (wProp z.Ledger (PL.S_Ledger_rows z) (wVar 13)) [13]) wNil)) (wB dRepr (wCons (wVar 9) wNil)))) (wRet (wC (.bl false))) wSkip)
  (wSeq (wIfS (wOr (wTest (wOp (dEq fun b => !b) (wProp z.Ledger (PL.S_Ledger_rows z) (wOp (dOwn2 z.Ledger (PL.S_Ledger___add__ z)) (wVar 6) (wVar 5))) (wOp dIx (wVar 9) (wC (.int 0))))) (wOr (wTest (wOp (dEq fun b => !b) (wProp z.Ledger (PL.S_Ledger_rows z) (wOp (dOwn2 z.Ledger (S_Ledger___sub__ z)) (wVar 5) (wVar 5))) (wTup wNil))) (wNot (wTest (wOp (dOwnC z.Ledger (PN.S_Ledger___eq__ z) fun b => b) (wOp (dOwn2 z.Ledger (PL.S_Ledger___add__ z)) (wVar 5) (wMake z.Ledger (starS 1 (PL.S_Ledger___init__ z)) wNil)) (wVar 5)))))) (wRet (wC (.bl false))) wSkip)
  (wSeq (wIfS (wOr (wNot (wTest (wCallP (S__law_moved_right z) 3 (fun ds _ => ds) (wCons (wVar 1) (wCons (wVar 5) (wCons (wCallP (S__law_sums z) 1 (fun ds _ => ds) (wCons (wVar 3) wNil)) wNil)))))) (wNot (wTest (wCallP (S__law_from_right z) 3 (fun ds _ => ds) (wCons (wVar 1) (wCons (wVar 5) (wCons (wCallP (S__law_sums z) 1 (fun ds _ => ds) (wCons (wVar 3) wNil)) wNil))))))) (wRet (wC (.bl false))) wSkip)
  (wSeq (wIfS (wNot (wTest (wCallP (S__law_called_right z) 3 (fun ds _ => ds) (wCons (wVar 1) (wCons (wVar 3) (wCons (wVar 4) wNil)))))) (wRet (wC (.bl false))) wSkip)
  (wIfS (wTest (wOp (dEq fun b => !b) (wB dRepr (wCons (wLst false (wCons (wProp z.Ledger (PL.S_Ledger_rows z) (wVar 5)) (wCons (wProp z.Ledger (PL.S_Ledger_rows z) (wVar 6)) wNil))) wNil)) (wB dRepr (wCons (wLst false (wCons (wCallP (S__law_sums z) 1 (fun ds _ => ds) (wCons (wVar 3) wNil)) (wCons (wCallP (S__law_sums z) 1 (fun ds _ => ds) (wCons (wVar 4) wNil)) wNil))) wNil)))) (wRet (wC (.bl false))) wSkip))))))))))))))
  (wRet (wC (.bl true)))))
theorem len_Ledger___mul__ (z : Ad) : ∀ ds h Q X, S_Ledger___mul__ z ds h Q X → ds.length = 2 := fun _ _ _ _ ⟨_, _, e, _⟩ => by rw [e]; rfl
theorem mo_Ledger___mul__ (z : Ad) : MoF (S_Ledger___mul__ z) := fun _ _ _ _ _ _ hq _ ⟨a, b, e, o1, o2, o3, q⟩ => ⟨a, b, e, o1, o2, o3, fun gs h1 h2 h3 => hq _ _ (q gs h1 h2 h3)⟩
theorem len_Ledger___neg__ (z : Ad) : ∀ ds h Q X, S_Ledger___neg__ z ds h Q X → ds.length = 1 := PQ.len_Ledger___neg__ z
theorem mo_Ledger___neg__ (z : Ad) : MoF (S_Ledger___neg__ z) := PQ.mo_Ledger___neg__ z
theorem len_Ledger___sub__ (z : Ad) : ∀ ds h Q X, S_Ledger___sub__ z ds h Q X → ds.length = 2 := PQ.len_Ledger___sub__ z
theorem mo_Ledger___sub__ (z : Ad) : MoF (S_Ledger___sub__ z) := PQ.mo_Ledger___sub__ z
theorem len_Ledger_moved (z : Ad) : ∀ ds h Q X, S_Ledger_moved z ds h Q X → ds.length = 2 := fun _ _ _ _ ⟨_, _, e, _⟩ => by rw [e]; rfl
theorem mo_Ledger_moved (z : Ad) : MoF (S_Ledger_moved z) := fun _ _ _ _ _ _ hq hx ⟨a, b, e, o1, o2, o3, o4, q, x⟩ => ⟨a, b, e, o1, o2, o3, o4, fun k => hq _ _ (q k), fun k1 k2 => hx _ _ (x k1 k2)⟩
theorem len_Ledger___call__ (z : Ad) : ∀ ds h Q X, S_Ledger___call__ z ds h Q X → ds.length = 2 := fun _ _ _ _ ⟨_, _, _, e, _⟩ => by rw [e]; rfl
theorem mo_Ledger___call__ (z : Ad) : MoF (S_Ledger___call__ z) := fun _ _ _ _ _ _ hq hx ⟨a, b, t, e, o1, o2, o3, q, x⟩ => ⟨a, b, t, e, o1, o2, o3, fun c k1 k2 k3 => hq _ _ (q c k1 k2 k3), fun k => hx _ _ (x k)⟩
theorem len__law_word (z : Ad) : ∀ ds h Q X, S__law_word z ds h Q X → ds.length = 1 := fun _ _ _ _ ⟨_, _, _, _, e, _⟩ => by rw [e]; rfl
theorem mo__law_word (z : Ad) : MoF (S__law_word z) := fun _ _ _ _ _ _ hq _ ⟨a, b, c, d, e, o1, q⟩ => ⟨a, b, c, d, e, o1, hq _ _ q⟩
theorem len__law_field (z : Ad) : ∀ ds h Q X, S__law_field z ds h Q X → ds.length = 2 := fun _ _ _ _ ⟨_, _, _, _, e, _⟩ => by rw [e]; rfl
theorem mo__law_field (z : Ad) : MoF (S__law_field z) := fun _ _ _ _ _ _ hq _ ⟨a, b, c, d, e, o1, q⟩ => ⟨a, b, c, d, e, o1, hq _ _ q⟩
theorem len__law_more_field (z : Ad) : ∀ ds h Q X, S__law_more_field z ds h Q X → ds.length = 2 := fun _ _ _ _ q => q.1
theorem mo__law_more_field (z : Ad) : MoF (S__law_more_field z) := fun _ _ _ _ _ _ _ _ q => q
theorem mo__law_heard (z : Ad) : MoH (S__law_heard z) := fun t mt h Q Q' X X' hq hx q => mt _ _ _ _ _ (fun _ h z => hq _ h z) (fun x h ⟨C, fs, w, v, e1, e2, z⟩ => ⟨C, fs, w, v, e1, e2, hq _ _ z⟩) q
theorem len__law_offset (z : Ad) : ∀ ds h Q X, S__law_offset z ds h Q X → ds.length = 1 := fun _ _ _ _ ⟨_, _, e, _⟩ => by rw [e]; rfl
theorem mo__law_offset (z : Ad) : MoF (S__law_offset z) := fun _ _ _ _ _ _ hq _ ⟨a, b, e, o1, o2, q⟩ => ⟨a, b, e, o1, o2, fun x y k1 k2 k3 => hq _ _ (q x y k1 k2 k3)⟩
theorem len__law_amount (z : Ad) : ∀ ds h Q X, S__law_amount z ds h Q X → ds.length = 1 := fun _ _ _ _ ⟨_, _, e, _⟩ => by rw [e]; rfl
theorem mo__law_amount (z : Ad) : MoF (S__law_amount z) := fun _ _ _ _ _ _ hq _ ⟨a, b, e, o1, o2, q⟩ => ⟨a, b, e, o1, o2, fun x y k1 k2 => hq _ _ (q x y k1 k2)⟩
theorem len__law_rows (z : Ad) : ∀ ds h Q X, S__law_rows z ds h Q X → ds.length = 2 := fun _ _ _ _ ⟨_, _, e, _⟩ => by rw [e]; rfl
theorem mo__law_rows (z : Ad) : MoF (S__law_rows z) := fun _ _ _ _ _ _ hq _ ⟨a, b, e, o1, o2, q⟩ => ⟨a, b, e, o1, o2, fun x y k1 k2 => hq _ _ (q x y k1 k2)⟩
theorem len__law_sums (z : Ad) : ∀ ds h Q X, S__law_sums z ds h Q X → ds.length = 1 := fun _ _ _ _ ⟨_, e, _⟩ => by rw [e]; rfl
theorem mo__law_sums (z : Ad) : MoF (S__law_sums z) := fun _ _ _ _ _ _ hq _ ⟨a, e, o1, q⟩ => ⟨a, e, o1, fun x k1 k2 => hq _ _ (q x k1 k2)⟩
theorem len__law_ledger (z : Ad) : ∀ ds h Q X, S__law_ledger z ds h Q X → ds.length = 1 := fun _ _ _ _ ⟨_, e, _⟩ => by rw [e]; rfl
theorem mo__law_ledger (z : Ad) : MoF (S__law_ledger z) := fun _ _ _ _ _ _ hq _ ⟨a, e, o1, o2, q⟩ => ⟨a, e, o1, o2, fun x k1 k2 k3 => hq _ _ (q x k1 k2 k3)⟩
theorem len__law_due (z : Ad) : ∀ ds h Q X, S__law_due z ds h Q X → ds.length = 2 := fun _ _ _ _ ⟨_, _, e, _⟩ => by rw [e]; rfl
theorem mo__law_due (z : Ad) : MoF (S__law_due z) := fun _ _ _ _ _ _ hq _ ⟨a, b, e, o1, o2, o3, o4, q⟩ => ⟨a, b, e, o1, o2, o3, o4, hq _ _ q⟩
theorem len__law_capacity (z : Ad) : ∀ ds h Q X, S__law_capacity z ds h Q X → ds.length = 2 := fun _ _ _ _ ⟨_, _, _, e, _⟩ => by rw [e]; rfl
theorem mo__law_capacity (z : Ad) : MoF (S__law_capacity z) := fun _ _ _ _ _ _ hq _ ⟨a, b, c, e, o1, o2, o3, o4, q⟩ => ⟨a, b, c, e, o1, o2, o3, o4, fun x y k1 k2 k3 => hq _ _ (q x y k1 k2 k3)⟩
theorem len__law_no_capacity (z : Ad) : ∀ ds h Q X, S__law_no_capacity z ds h Q X → ds.length = 1 := fun _ _ _ _ ⟨_, _, e, _⟩ => by rw [e]; rfl
theorem mo__law_no_capacity (z : Ad) : MoF (S__law_no_capacity z) := fun _ _ _ _ _ _ hq _ ⟨a, b, e, o1, o2, q⟩ => ⟨a, b, e, o1, o2, fun x y k1 k2 => hq _ _ (q x y k1 k2)⟩
theorem len__law_moved_right (z : Ad) : ∀ ds h Q X, S__law_moved_right z ds h Q X → ds.length = 3 := fun _ _ _ _ ⟨_, _, _, e, _⟩ => by rw [e]; rfl
theorem mo__law_moved_right (z : Ad) : MoF (S__law_moved_right z) := fun _ _ _ _ _ _ hq _ ⟨a, b, c, e, o1, o2, o3, o4, o5, o6, o7, q⟩ => ⟨a, b, c, e, o1, o2, o3, o4, o5, o6, o7, fun x k1 => hq _ _ (q x k1)⟩
theorem len__law_from_right (z : Ad) : ∀ ds h Q X, S__law_from_right z ds h Q X → ds.length = 3 := fun _ _ _ _ ⟨_, _, _, e, _⟩ => by rw [e]; rfl
theorem mo__law_from_right (z : Ad) : MoF (S__law_from_right z) := fun _ _ _ _ _ _ hq _ ⟨a, b, c, e, o1, o2, o3, o4, o5, q⟩ => ⟨a, b, c, e, o1, o2, o3, o4, o5, fun x k1 => hq _ _ (q x k1)⟩
theorem len__law_called_right (z : Ad) : ∀ ds h Q X, S__law_called_right z ds h Q X → ds.length = 3 := fun _ _ _ _ ⟨_, _, _, _, e, _⟩ => by rw [e]; rfl
theorem mo__law_called_right (z : Ad) : MoF (S__law_called_right z) := fun _ _ _ _ _ _ hq _ ⟨a, b, c, d, e, o1, o2, o3, o4, o5, q⟩ => ⟨a, b, c, d, e, o1, o2, o3, o4, o5, fun x k1 => hq _ _ (q x k1)⟩
theorem len_law (z : Ad) : ∀ ds h Q X, S_law z ds h Q X → ds.length = 1 := fun _ _ _ _ ⟨_, e, _⟩ => by rw [e]; rfl
theorem mo_law (z : Ad) : MoF (S_law z) := fun _ _ _ _ _ _ hq _ ⟨a, e, o, q⟩ => ⟨a, e, o, fun h' => hq _ _ (q h')⟩
theorem law_at (z : Ad) : ∀ (js : List Int) (h : AH), js.length ≤ 63 → Tb z h → S_law z [.lk (js.map D.int)] h (fun d _ => d = .bl true) (fun _ _ => False) := fun js h _ t => ⟨js, rfl, t, fun _ => rfl⟩
end K26
namespace K26
open PySem PySem.Spec L2 C8 DL PK PL PQ PN PB F4 PR
theorem p_Ledger___mul__ (z : Ad) : ∀ ds h Q X, S_Ledger___mul__ z ds h Q X → w_Ledger___mul__ z (endsD Q X) (startD 5 ds) h := by
  rintro ds h Q X ⟨es, n, rfl, hr, hl, hm, q⟩
  show w_Ledger___mul__ z (endsD Q X) [some (ledD z.Ledger es), some (.int n), none, none, none] h
  have big := DL.big_size
  unfold w_Ledger___mul__
  rw [u_seq]
  simp only [u_asg, u_gN, u_ret, u_retN, u_skip, u_expr, u_ifs, u_c, u_op, u_neg, u_test, u_and, u_or, u_not, u_if, u_nil, u_cons, u_tup, u_lst, u_callP, u_call, u_b, u_chain, u_andV, u_addI, u_subI, u_mulI, u_divI, u_modI, u_powI, u_cmpI, u_eqI, u_eqS, u_eqB, u_abs, u_intI, u_intB, u_newT, u_newF, u_isN, u_notN, wVar, List.set_cons_zero, List.set_cons_succ, List.getElem?_cons_zero, List.getElem?_cons_succ, List.length_cons, List.length_nil, u_lc, u_for, u_r1, u_r2, u_r3, u_num, u_notV, u_yes, u_w0, u_w1, u_tupi, u_prop]
  refine ⟨ledD_isI, es, rfl, ?_⟩
  try dsimp only
  intro p hp
  refine comp_pure (fun x => match x with | .tup [.int a, .int b] => some (.tup [.int a, .int (b * n)]) | _ => none) (fun _ => trivial) (by rw [List.length_map]; omega) ?_ ?_
  · intro y acc K hy la kk
    obtain ⟨e, he, rfl⟩ := List.mem_map.mp hy
    refine ⟨_, rfl, rfl, _, _, rfl, _, _, rfl, rfl, ?_⟩
    try simp only [u_asg, u_gN, u_ret, u_retN, u_skip, u_expr, u_ifs, u_c, u_op, u_neg, u_test, u_and, u_or, u_not, u_if, u_nil, u_cons, u_tup, u_lst, u_callP, u_call, u_b, u_chain, u_andV, u_addI, u_subI, u_mulI, u_divI, u_modI, u_powI, u_cmpI, u_eqI, u_eqS, u_eqB, u_abs, u_intI, u_intB, u_newT, u_newF, u_isN, u_notN, wVar, List.set_cons_zero, List.set_cons_succ, List.getElem?_cons_zero, List.getElem?_cons_succ, List.length_cons, List.length_nil, u_lc, u_for, u_r1, u_r2, u_r3, u_num, u_notV, u_yes, u_w0, u_w1, u_dput, u_get2, u_dget, u_prop, u_fld, u_setF, u_make, u_makeS, u_met, u_calO, u_orT, u_tupIt, u_dc, u_maxDd, u_dnew, u_tupi, ix_p0, ix_p1, wSl, woNone, woSome]
    refine ⟨hm e he, by decide, acc, up_same, la, by rw [up_up]; exact kk⟩
  · have er : (es.map pairD).filterMap (fun x => match x with | .tup [.int a, .int b] => some (D.tup [.int a, .int (b * n)]) | _ => none) = (mulP n es).map pairD := by
      unfold mulP
      rw [List.filterMap_map, List.map_map]
      exact List.filterMap_eq_map ▸ rfl
    rw [er]
    refine endF hp ?_
    simp only [u_asg, u_gN, u_ret, u_retN, u_skip, u_expr, u_ifs, u_c, u_op, u_neg, u_test, u_and, u_or, u_not, u_if, u_nil, u_cons, u_tup, u_lst, u_callP, u_call, u_b, u_chain, u_andV, u_addI, u_subI, u_mulI, u_divI, u_modI, u_powI, u_cmpI, u_eqI, u_eqS, u_eqB, u_abs, u_intI, u_intB, u_newT, u_newF, u_isN, u_notN, wVar, List.set_cons_zero, List.set_cons_succ, List.getElem?_cons_zero, List.getElem?_cons_succ, List.length_cons, List.length_nil, u_lc, u_for, u_r1, u_r2, u_r3, u_num, u_notV, u_yes, u_w0, u_w1, u_makeS]
    refine ⟨_, rfl, fun a ha => ?_⟩
    refine make_led (rows := mulP n es) rfl ha (mul_inr hr) (by unfold mulP; rw [List.length_map]; exact hl) fun gs h1 h2 h3 => ⟨rfl, _, up_same, ?_⟩
    rw [rm_up, rm_none ha]
    exact fin_of (q gs (h1.of_amt fun k => amt_mul) h2 (by unfold mulP at h3; rw [List.length_map] at h3; exact h3))
theorem p_Ledger___neg__ (z : Ad) : ∀ ds h Q X, S_Ledger___neg__ z ds h Q X → w_Ledger___neg__ z (endsD Q X) (startD 1 ds) h := by
  rintro ds h Q X ⟨es, rfl, hr, hl, q⟩
  show w_Ledger___neg__ z (endsD Q X) [some (ledD z.Ledger es)] h
  unfold w_Ledger___neg__
  simp only [u_asg, u_gN, u_ret, u_retN, u_skip, u_expr, u_ifs, u_c, u_op, u_neg, u_test, u_and, u_or, u_not, u_if, u_nil, u_cons, u_tup, u_lst, u_callP, u_call, u_b, u_chain, u_andV, u_addI, u_subI, u_mulI, u_divI, u_modI, u_powI, u_cmpI, u_eqI, u_eqS, u_eqB, u_abs, u_intI, u_intB, u_newT, u_newF, u_isN, u_notN, wVar, List.set_cons_zero, List.set_cons_succ, List.getElem?_cons_zero, List.getElem?_cons_succ, List.length_cons, List.length_nil, u_lc, u_for, u_r1, u_r2, u_r3, u_num, u_notV, u_yes, u_w0, u_w1, u_ownI]
  refine ⟨ledD_isI, es, -1, rfl, hr, hl, fun e _ => .inr (.inl ⟨by decide, by decide⟩), fun gs h1 h2 h3 => ?_⟩
  exact fin_of (q gs (h1.of_amt fun k => by omega) h2 h3)
theorem p_Ledger___sub__ (z : Ad) : ∀ ds h Q X, S_Ledger___sub__ z ds h Q X → w_Ledger___sub__ z (endsD Q X) (startD 2 ds) h := PQ.p_Ledger___sub__ z
/-! ### the greatest offset -/
theorem top_last {es : Prs} {e : Int × Int} : topI (es ++ [e]) = e.1 := by
  unfold topI
  rw [List.getLast?_append]
  rfl
theorem top_of {es : Prs} (s : Std es) {m : Int} (hm : m ∈ es.map (·.1)) (hx : ∀ y ∈ es.map (·.1), y ≤ m) : m = topI es := by
  have n : es ≠ [] := fun e => by rw [e] at hm; cases hm
  obtain ⟨fs, e, rfl⟩ : ∃ fs e, es = fs ++ [e] := ⟨es.dropLast, es.getLast n, (List.dropLast_concat_getLast n).symm⟩
  rw [top_last]
  have h1 := hx e.1 (by simp)
  rw [List.map_append, List.mem_append] at hm
  rcases hm with hm | hm
  · obtain ⟨f, hf, rfl⟩ := List.mem_map.mp hm
    have : f.1 < e.1 := (List.pairwise_append.mp s.1).2.2 f hf e (by simp)
    omega
  · rw [List.map_cons, List.map_nil, List.mem_singleton] at hm
    exact hm
theorem top_le {es : Prs} (s : Std es) : ∀ e ∈ es, e.1 ≤ topI es := fun e he => by
  have n : es ≠ [] := fun e => by rw [e] at he; cases he
  obtain ⟨fs, x, rfl⟩ : ∃ fs e, es = fs ++ [e] := ⟨es.dropLast, es.getLast n, (List.dropLast_concat_getLast n).symm⟩
  rw [top_last]
  rcases List.mem_append.mp he with h | h
  · have : e.1 < x.1 := (List.pairwise_append.mp s.1).2.2 e h x (by simp)
    omega
  · rw [List.mem_singleton] at h; rw [h]; exact Int.le_refl _
theorem mov_std {b : Int} {es : Prs} (s : Std es) : Std (movP b es) := by
  constructor
  · unfold movP
    rw [List.pairwise_map]
    exact s.1.imp fun {x y} h => by dsimp only; omega
  · intro e he
    obtain ⟨y, hy, rfl⟩ := List.mem_map.mp he
    exact s.2 y hy
theorem p_Ledger_moved (z : Ad) : ∀ ds h Q X, S_Ledger_moved z ds h Q X → w_Ledger_moved z (endsD Q X) (startD 5 ds) h := by
  rintro ds h Q X ⟨es, b, rfl, b0, hr, hs, hl, q, r⟩
  show w_Ledger_moved z (endsD Q X) [some (ledD z.Ledger es), some (.int b), none, none, none] h
  have big := DL.big_size
  unfold w_Ledger_moved
  refine seq_go (fun ρ h' => (es = [] ∨ topI es + b ≤ 1000000) ∧ ρ = [some (ledD z.Ledger es), some (.int b), none, none, none] ∧ h' = h) (fun K k => ?_) ?_
  · have k := fun c => k _ _ ⟨c, rfl, rfl⟩
    simp only [u_asg, u_gN, u_ret, u_retN, u_skip, u_expr, u_ifs, u_c, u_op, u_neg, u_test, u_and, u_or, u_not, u_if, u_nil, u_cons, u_tup, u_lst, u_callP, u_call, u_b, u_chain, u_andV, u_addI, u_subI, u_mulI, u_divI, u_modI, u_powI, u_cmpI, u_eqI, u_eqS, u_eqB, u_abs, u_intI, u_intB, u_newT, u_newF, u_isN, u_notN, wVar, List.set_cons_zero, List.set_cons_succ, List.getElem?_cons_zero, List.getElem?_cons_succ, List.length_cons, List.length_nil, u_lc, u_for, u_r1, u_r2, u_r3, u_num, u_notV, u_yes, u_w0, u_w1, u_dput, u_get2, u_dget, u_prop, u_fld, u_setF, u_make, u_makeS, u_met, u_calO, u_orT, u_tupIt, u_dc, u_maxDd, u_dnew, u_tupi, ix_p0, ix_p1, wSl, woNone, woSome]
    rw [u_lenO]
    refine ⟨ledD_isI, es, rfl, es.length, rfl, by omega, ?_⟩
    try simp only [u_asg, u_gN, u_ret, u_retN, u_skip, u_expr, u_ifs, u_c, u_op, u_neg, u_test, u_and, u_or, u_not, u_if, u_nil, u_cons, u_tup, u_lst, u_callP, u_call, u_b, u_chain, u_andV, u_addI, u_subI, u_mulI, u_divI, u_modI, u_powI, u_cmpI, u_eqI, u_eqS, u_eqB, u_abs, u_intI, u_intB, u_newT, u_newF, u_isN, u_notN, wVar, List.set_cons_zero, List.set_cons_succ, List.getElem?_cons_zero, List.getElem?_cons_succ, List.length_cons, List.length_nil, u_lc, u_for, u_r1, u_r2, u_r3, u_num, u_notV, u_yes, u_w0, u_w1, u_dput, u_get2, u_dget, u_prop, u_fld, u_setF, u_make, u_makeS, u_met, u_calO, u_orT, u_tupIt, u_dc, u_maxDd, u_dnew, u_tupi, ix_p0, ix_p1, wSl, woNone, woSome]
    by_cases c : (0 : Int) < (es.length : Nat)
    · rw [if_pos (decide_eq_true c)]
      have ne : es ≠ [] := fun e => by rw [e] at c; exact absurd c (by decide)
      refine ⟨ledD_isI, es, rfl, fun e => absurd e ne, fun m hm hx => ?_⟩
      obtain rfl := top_of hs hm hx
      try simp only [u_asg, u_gN, u_ret, u_retN, u_skip, u_expr, u_ifs, u_c, u_op, u_neg, u_test, u_and, u_or, u_not, u_if, u_nil, u_cons, u_tup, u_lst, u_callP, u_call, u_b, u_chain, u_andV, u_addI, u_subI, u_mulI, u_divI, u_modI, u_powI, u_cmpI, u_eqI, u_eqS, u_eqB, u_abs, u_intI, u_intB, u_newT, u_newF, u_isN, u_notN, wVar, List.set_cons_zero, List.set_cons_succ, List.getElem?_cons_zero, List.getElem?_cons_succ, List.length_cons, List.length_nil, u_lc, u_for, u_r1, u_r2, u_r3, u_num, u_notV, u_yes, u_w0, u_w1, u_dput, u_get2, u_dget, u_prop, u_fld, u_setF, u_make, u_makeS, u_met, u_calO, u_orT, u_tupIt, u_dc, u_maxDd, u_dnew, u_tupi, ix_p0, ix_p1, wSl, woNone, woSome]
      by_cases d : 1000000 < topI es + b
      · rw [if_pos (decide_eq_true d)]
        simp only [u_raise, u_asg, u_gN, u_ret, u_retN, u_skip, u_expr, u_ifs, u_c, u_op, u_neg, u_test, u_and, u_or, u_not, u_if, u_nil, u_cons, u_tup, u_lst, u_callP, u_call, u_b, u_chain, u_andV, u_addI, u_subI, u_mulI, u_divI, u_modI, u_powI, u_cmpI, u_eqI, u_eqS, u_eqB, u_abs, u_intI, u_intB, u_newT, u_newF, u_isN, u_notN, wVar, List.set_cons_zero, List.set_cons_succ, List.getElem?_cons_zero, List.getElem?_cons_succ, List.length_cons, List.length_nil, u_lc, u_for, u_r1, u_r2, u_r3, u_num, u_notV, u_yes, u_w0, u_w1, u_dput, u_get2, u_dget, u_prop, u_fld, u_setF, u_make, u_makeS, u_met, u_calO, u_orT, u_tupIt, u_dc, u_maxDd, u_dnew, u_tupi, ix_p0, ix_p1, wSl, woNone, woSome]
        refine ⟨ledD_isI, es, rfl, fun e => absurd e ne, fun m hm hx => ?_⟩
        obtain rfl := top_of hs hm hx
        try simp only [u_asg, u_gN, u_ret, u_retN, u_skip, u_expr, u_ifs, u_c, u_op, u_neg, u_test, u_and, u_or, u_not, u_if, u_nil, u_cons, u_tup, u_lst, u_callP, u_call, u_b, u_chain, u_andV, u_addI, u_subI, u_mulI, u_divI, u_modI, u_powI, u_cmpI, u_eqI, u_eqS, u_eqB, u_abs, u_intI, u_intB, u_newT, u_newF, u_isN, u_notN, wVar, List.set_cons_zero, List.set_cons_succ, List.getElem?_cons_zero, List.getElem?_cons_succ, List.length_cons, List.length_nil, u_lc, u_for, u_r1, u_r2, u_r3, u_num, u_notV, u_yes, u_w0, u_w1, u_dput, u_get2, u_dget, u_prop, u_fld, u_setF, u_make, u_makeS, u_met, u_calO, u_orT, u_tupIt, u_dc, u_maxDd, u_dnew, u_tupi, ix_p0, ix_p1, wSl, woNone, woSome]
        exact ⟨trivial, r ne d⟩
      · rw [if_neg (by rw [decide_eq_false d]; decide)]
        exact k (.inr (by omega))
    · rw [if_neg (by rw [decide_eq_false c]; decide)]
      exact k (.inl (by cases es with | nil => rfl | cons x xs => exact absurd (by rw [List.length_cons]; omega) c))
  rintro _ _ ⟨ft, rfl, rfl⟩
  rw [u_seq]
  simp only [u_asg, u_gN, u_ret, u_retN, u_skip, u_expr, u_ifs, u_c, u_op, u_neg, u_test, u_and, u_or, u_not, u_if, u_nil, u_cons, u_tup, u_lst, u_callP, u_call, u_b, u_chain, u_andV, u_addI, u_subI, u_mulI, u_divI, u_modI, u_powI, u_cmpI, u_eqI, u_eqS, u_eqB, u_abs, u_intI, u_intB, u_newT, u_newF, u_isN, u_notN, wVar, List.set_cons_zero, List.set_cons_succ, List.getElem?_cons_zero, List.getElem?_cons_succ, List.length_cons, List.length_nil, u_lc, u_for, u_r1, u_r2, u_r3, u_num, u_notV, u_yes, u_w0, u_w1, u_tupi, u_prop]
  refine ⟨ledD_isI, es, rfl, ?_⟩
  try dsimp only
  intro p hp
  refine comp_pure (fun x => match x with | .tup [.int a, .int c] => some (.tup [.int (a + b), .int c]) | _ => none) (fun _ => trivial) (by rw [List.length_map]; omega) ?_ ?_
  · intro y acc K hy la kk
    obtain ⟨e, he, rfl⟩ := List.mem_map.mp hy
    refine ⟨_, rfl, rfl, _, _, rfl, _, _, rfl, rfl, ?_⟩
    try simp only [u_asg, u_gN, u_ret, u_retN, u_skip, u_expr, u_ifs, u_c, u_op, u_neg, u_test, u_and, u_or, u_not, u_if, u_nil, u_cons, u_tup, u_lst, u_callP, u_call, u_b, u_chain, u_andV, u_addI, u_subI, u_mulI, u_divI, u_modI, u_powI, u_cmpI, u_eqI, u_eqS, u_eqB, u_abs, u_intI, u_intB, u_newT, u_newF, u_isN, u_notN, wVar, List.set_cons_zero, List.set_cons_succ, List.getElem?_cons_zero, List.getElem?_cons_succ, List.length_cons, List.length_nil, u_lc, u_for, u_r1, u_r2, u_r3, u_num, u_notV, u_yes, u_w0, u_w1, u_dput, u_get2, u_dget, u_prop, u_fld, u_setF, u_make, u_makeS, u_met, u_calO, u_orT, u_tupIt, u_dc, u_maxDd, u_dnew, u_tupi, ix_p0, ix_p1, wSl, woNone, woSome]
    refine ⟨by decide, acc, up_same, la, by rw [up_up]; exact kk⟩
  · have er : (es.map pairD).filterMap (fun x => match x with | .tup [.int a, .int c] => some (D.tup [.int (a + b), .int c]) | _ => none) = (movP b es).map pairD := by
      unfold movP
      rw [List.filterMap_map, List.map_map]
      exact List.filterMap_eq_map ▸ rfl
    rw [er]
    refine endF hp ?_
    simp only [u_asg, u_gN, u_ret, u_retN, u_skip, u_expr, u_ifs, u_c, u_op, u_neg, u_test, u_and, u_or, u_not, u_if, u_nil, u_cons, u_tup, u_lst, u_callP, u_call, u_b, u_chain, u_andV, u_addI, u_subI, u_mulI, u_divI, u_modI, u_powI, u_cmpI, u_eqI, u_eqS, u_eqB, u_abs, u_intI, u_intB, u_newT, u_newF, u_isN, u_notN, wVar, List.set_cons_zero, List.set_cons_succ, List.getElem?_cons_zero, List.getElem?_cons_succ, List.length_cons, List.length_nil, u_lc, u_for, u_r1, u_r2, u_r3, u_num, u_notV, u_yes, u_w0, u_w1, u_makeS]
    refine ⟨_, rfl, fun a ha => ?_⟩
    have ml : (movP b es).length = es.length := by unfold movP; rw [List.length_map]
    refine make_led (rows := movP b es) rfl ha (fun e he => by
      obtain ⟨y, hy, rfl⟩ := List.mem_map.mp he
      have h1 := hr y hy
      have h2 := top_le hs y hy
      have h3 : topI es + b ≤ 1000000 := by
        rcases ft with e | e
        · rw [e] at hy; cases hy
        · exact e
      exact ⟨by dsimp only; omega, by dsimp only; omega⟩) (by omega) fun gs h1 h2 h3 => ⟨rfl, _, up_same, ?_⟩
    rw [rm_up, rm_none ha]
    obtain rfl : gs = movP b es := h1.unique (mov_std hs).led
    exact fin_of (q ft)
theorem p_Ledger___call__ (z : Ad) : ∀ ds h Q X, S_Ledger___call__ z ds h Q X → w_Ledger___call__ z (endsD Q X) (startD 2 ds) h := by
  rintro ds h Q X ⟨es, x, t, rfl, ht, hr, hl, q, r⟩
  show w_Ledger___call__ z (endsD Q X) [some (ledD z.Ledger es), some x] h
  unfold w_Ledger___call__
  ((try dsimp only); rw [u_seq]; (try simp only [u_asg, u_gN, u_ret, u_retN, u_skip, u_expr, u_ifs, u_c, u_op, u_neg, u_test, u_and, u_or, u_not, u_if, u_nil, u_cons, u_tup, u_lst, u_callP, u_call, u_b, u_chain, u_andV, u_addI, u_subI, u_mulI, u_divI, u_modI, u_powI, u_cmpI, u_eqI, u_eqS, u_eqB, u_abs, u_intI, u_intB, u_newT, u_newF, u_isN, u_notN, wVar, List.set_cons_zero, List.set_cons_succ, List.getElem?_cons_zero, List.getElem?_cons_succ, List.length_cons, List.length_nil, u_lc, u_for, u_r1, u_r2, u_r3, u_num, u_notV, u_yes, u_w0, u_w1, u_dput, u_get2, u_dget, u_prop, u_fld, u_setF, u_make, u_makeS, u_met, u_calO, u_orT, u_tupIt, u_dc, u_maxDd, u_dnew, u_tupi, ix_p0, ix_p1, wSl, woNone, woSome]))
  refine ⟨trivial, x, t, rfl, ht, fun cc => ?_, r⟩
  obtain ⟨c, rfl, c1, c2⟩ := capB_at cc
  try simp only [u_asg, u_gN, u_ret, u_retN, u_skip, u_expr, u_ifs, u_c, u_op, u_neg, u_test, u_and, u_or, u_not, u_if, u_nil, u_cons, u_tup, u_lst, u_callP, u_call, u_b, u_chain, u_andV, u_addI, u_subI, u_mulI, u_divI, u_modI, u_powI, u_cmpI, u_eqI, u_eqS, u_eqB, u_abs, u_intI, u_intB, u_newT, u_newF, u_isN, u_notN, wVar, List.set_cons_zero, List.set_cons_succ, List.getElem?_cons_zero, List.getElem?_cons_succ, List.length_cons, List.length_nil, u_lc, u_for, u_r1, u_r2, u_r3, u_num, u_notV, u_yes, u_w0, u_w1, u_dput, u_get2, u_dget, u_prop, u_fld, u_setF, u_make, u_makeS, u_met, u_calO, u_orT, u_tupIt, u_dc, u_maxDd, u_dnew, u_tupi, ix_p0, ix_p1, wSl, woNone, woSome]
  refine ⟨_, rfl, rfl, es, c, rfl, hr, hl, by omega, ?_⟩
  exact fin_of (q c rfl c1 c2)
end K26
namespace K26
open PySem PySem.Spec L2 C8 DL PK PL PQ PN PB F4 PR
theorem isX_go {M : XTab} {C : Addr} {fs : List (Str × D)} {c : D} {b : Bool} {h : AH} {Q : KD} (hm : (C, c, b) ∈ M) (q : Q (.bl b) h) : dIsX M [.xob C fs, c] h Q := ⟨C, fs, c, b, rfl, hm, q⟩
theorem u_addLL {xs ys : List D} {h : AH} {Q : KD} : dAdd false (.lst xs) (.lst ys) h Q = ∃ xs' ys', lstOf h (.lst xs) = some xs' ∧ lstOf h (.lst ys) = some ys' ∧ xs'.length + ys'.length ≤ sizeLine ∧ newL false (xs' ++ ys') h Q := rfl
theorem addL_go {xs ys : List D} {h : AH} {Q : KD} (hl : xs.length + ys.length ≤ 100000) (q : Q (.lst (xs ++ ys)) h) : dAdd false (.lst xs) (.lst ys) h Q := by
  rw [u_addLL]
  exact ⟨xs, ys, rfl, rfl, sz_le hl, q⟩
theorem same_ref {f : Bool → Bool} {xs : List D} {h : AH} {Q : KD} {k : Nat} {a : Addr} (e : h a = some (.lst xs)) (r : Fl (.lst xs) k) (hk : k ≤ 64) (q : Q (.bl (f true)) h) : dEq f (.ref a) (.lst xs) h Q := by
  have c : cur h (.ref a) = .lst xs := by simp [cur, e]
  refine ⟨by rw [c]; exact r.da, r.da, by rw [c]; exact r.sh hk, r.sh hk, ?_⟩
  rw [c]
  show Q (.bl (f (PyData.eqv (pd (.lst xs)) (pd (.lst xs))))) h
  rw [r.eqv]; exact q
theorem fl_bls : ∀ (xs : List Bool), Fl (.lst (xs.map .bl)) 1 := fun xs => fl_lst (k := 0) fun x hx => by
  obtain ⟨b, _, rfl⟩ := List.mem_map.mp hx
  exact fl_bl b
theorem p__law_word (z : Ad) : ∀ ds h Q X, S__law_word z ds h Q X → w__law_word z (endsD Q X) (startD 5 ds) h := by
  rintro ds h Q X ⟨C, fs, w, v, rfl, hw, q⟩
  show w__law_word z (endsD Q X) [some (.xob C fs), none, none, none, none] h
  unfold w__law_word
  cases hw with
  | cap v =>
    try dsimp only [List.set_cons_zero, List.set_cons_succ]
    rw [u_seq]
    simp only [u_asg, u_gN, u_ret, u_retN, u_skip, u_expr, u_ifs, u_c, u_op, u_neg, u_test, u_and, u_or, u_not, u_if, u_nil, u_cons, u_tup, u_lst, u_callP, u_call, u_b, u_chain, u_andV, u_addI, u_subI, u_mulI, u_divI, u_modI, u_powI, u_cmpI, u_eqI, u_eqS, u_eqB, u_abs, u_intI, u_intB, u_newT, u_newF, u_isN, u_notN, wVar, List.set_cons_zero, List.set_cons_succ, List.getElem?_cons_zero, List.getElem?_cons_succ, List.length_cons, List.length_nil, u_lc, u_for, u_r1, u_r2, u_r3, u_num, u_notV, u_yes, u_w0, u_w1, u_dput, u_get2, u_dget, u_prop, u_fld, u_setF, u_make, u_makeS, u_met, u_calO, u_orT, u_tupIt, u_dc, u_maxDd, u_dnew, u_tupi, ix_p0, ix_p1, wSl, woNone, woSome]
    refine isX_go (b := false) (by simp [xtab])  (isX_go (b := false) (by simp [xtab])  (isX_go (b := true) (by simp [xtab])  ?_))
    refine ⟨sz_le (show 3 ≤ 100000 by decide), ?_⟩
    try dsimp only [List.cons_append, List.nil_append]
    try dsimp only [List.set_cons_zero, List.set_cons_succ]
    rw [u_seq]
    simp only [u_asg, u_gN, u_ret, u_retN, u_skip, u_expr, u_ifs, u_c, u_op, u_neg, u_test, u_and, u_or, u_not, u_if, u_nil, u_cons, u_tup, u_lst, u_callP, u_call, u_b, u_chain, u_andV, u_addI, u_subI, u_mulI, u_divI, u_modI, u_powI, u_cmpI, u_eqI, u_eqS, u_eqB, u_abs, u_intI, u_intB, u_newT, u_newF, u_isN, u_notN, wVar, List.set_cons_zero, List.set_cons_succ, List.getElem?_cons_zero, List.getElem?_cons_succ, List.length_cons, List.length_nil, u_lc, u_for, u_r1, u_r2, u_r3, u_num, u_notV, u_yes, u_w0, u_w1, u_dput, u_get2, u_dget, u_prop, u_fld, u_setF, u_make, u_makeS, u_met, u_calO, u_orT, u_tupIt, u_dc, u_maxDd, u_dnew, u_tupi, ix_p0, ix_p1, wSl, woNone, woSome]
    refine isX_go (b := false) (by simp [xtab])  (isX_go (b := false) (by simp [xtab])  (isX_go (b := false) (by simp [xtab])  ?_))
    refine ⟨sz_le (show 3 ≤ 100000 by decide), ?_⟩
    refine addL_go (by decide) ?_
    try dsimp only [List.cons_append, List.nil_append]
    try dsimp only [List.set_cons_zero, List.set_cons_succ]
    rw [u_seq]
    simp only [u_asg, u_gN, u_ret, u_retN, u_skip, u_expr, u_ifs, u_c, u_op, u_neg, u_test, u_and, u_or, u_not, u_if, u_nil, u_cons, u_tup, u_lst, u_callP, u_call, u_b, u_chain, u_andV, u_addI, u_subI, u_mulI, u_divI, u_modI, u_powI, u_cmpI, u_eqI, u_eqS, u_eqB, u_abs, u_intI, u_intB, u_newT, u_newF, u_isN, u_notN, wVar, List.set_cons_zero, List.set_cons_succ, List.getElem?_cons_zero, List.getElem?_cons_succ, List.length_cons, List.length_nil, u_lc, u_for, u_r1, u_r2, u_r3, u_num, u_notV, u_yes, u_w0, u_w1, u_dput, u_get2, u_dget, u_prop, u_fld, u_setF, u_make, u_makeS, u_met, u_calO, u_orT, u_tupIt, u_dc, u_maxDd, u_dnew, u_tupi, ix_p0, ix_p1, wSl, woNone, woSome]
    refine isX_go (b := false) (by simp [xtab])  (isX_go (b := false) (by simp [xtab])  (isX_go (b := false) (by simp [xtab])  ?_))
    refine ⟨sz_le (show 3 ≤ 100000 by decide), ?_⟩
    refine addL_go (by decide) ?_
    try dsimp only [List.cons_append, List.nil_append]
    try dsimp only [List.set_cons_zero, List.set_cons_succ]
    rw [u_seq]
    simp only [u_asg, u_gN, u_ret, u_retN, u_skip, u_expr, u_ifs, u_c, u_op, u_neg, u_test, u_and, u_or, u_not, u_if, u_nil, u_cons, u_tup, u_lst, u_callP, u_call, u_b, u_chain, u_andV, u_addI, u_subI, u_mulI, u_divI, u_modI, u_powI, u_cmpI, u_eqI, u_eqS, u_eqB, u_abs, u_intI, u_intB, u_newT, u_newF, u_isN, u_notN, wVar, List.set_cons_zero, List.set_cons_succ, List.getElem?_cons_zero, List.getElem?_cons_succ, List.length_cons, List.length_nil, u_lc, u_for, u_r1, u_r2, u_r3, u_num, u_notV, u_yes, u_w0, u_w1, u_dput, u_get2, u_dget, u_prop, u_fld, u_setF, u_make, u_makeS, u_met, u_calO, u_orT, u_tupIt, u_dc, u_maxDd, u_dnew, u_tupi, ix_p0, ix_p1, wSl, woNone, woSome]
    refine isX_go (b := false) (by simp [xtab])  (isX_go (b := false) (by simp [xtab])  (isX_go (b := false) (by simp [xtab])  ?_))
    refine ⟨sz_le (show 3 ≤ 100000 by decide), ?_⟩
    refine addL_go (by decide) ?_
    try dsimp only [List.cons_append, List.nil_append]
    try dsimp only [List.set_cons_zero, List.set_cons_succ]
    rw [u_seq]
    simp only [u_asg, u_gN, u_ret, u_retN, u_skip, u_expr, u_ifs, u_c, u_op, u_neg, u_test, u_and, u_or, u_not, u_if, u_nil, u_cons, u_tup, u_lst, u_callP, u_call, u_b, u_chain, u_andV, u_addI, u_subI, u_mulI, u_divI, u_modI, u_powI, u_cmpI, u_eqI, u_eqS, u_eqB, u_abs, u_intI, u_intB, u_newT, u_newF, u_isN, u_notN, wVar, List.set_cons_zero, List.set_cons_succ, List.getElem?_cons_zero, List.getElem?_cons_succ, List.length_cons, List.length_nil, u_lc, u_for, u_r1, u_r2, u_r3, u_num, u_notV, u_yes, u_w0, u_w1, u_dput, u_get2, u_dget, u_prop, u_fld, u_setF, u_make, u_makeS, u_met, u_calO, u_orT, u_tupIt, u_dc, u_maxDd, u_dnew, u_tupi, ix_p0, ix_p1, wSl, woNone, woSome]
    refine isX_go (b := false) (by simp [xtab])  (isX_go (b := false) (by simp [xtab])  (isX_go (b := false) (by simp [xtab])  ?_))
    refine ⟨sz_le (show 3 ≤ 100000 by decide), ?_⟩
    refine addL_go (by decide) ?_
    try dsimp only [List.cons_append, List.nil_append]
    try dsimp only [List.set_cons_zero, List.set_cons_succ]
    rw [u_seq]
    simp only [u_asg, u_gN, u_ret, u_retN, u_skip, u_expr, u_ifs, u_c, u_op, u_neg, u_test, u_and, u_or, u_not, u_if, u_nil, u_cons, u_tup, u_lst, u_callP, u_call, u_b, u_chain, u_andV, u_addI, u_subI, u_mulI, u_divI, u_modI, u_powI, u_cmpI, u_eqI, u_eqS, u_eqB, u_abs, u_intI, u_intB, u_newT, u_newF, u_isN, u_notN, wVar, List.set_cons_zero, List.set_cons_succ, List.getElem?_cons_zero, List.getElem?_cons_succ, List.length_cons, List.length_nil, u_lc, u_for, u_r1, u_r2, u_r3, u_num, u_notV, u_yes, u_w0, u_w1, u_dput, u_get2, u_dget, u_prop, u_fld, u_setF, u_make, u_makeS, u_met, u_calO, u_orT, u_tupIt, u_dc, u_maxDd, u_dnew, u_tupi, ix_p0, ix_p1, wSl, woNone, woSome]
    refine isX_go (b := false) (by simp [xtab])  (isX_go (b := false) (by simp [xtab])  (isX_go (b := false) (by simp [xtab])  ?_))
    refine ⟨sz_le (show 3 ≤ 100000 by decide), ?_⟩
    refine addL_go (by decide) ?_
    try dsimp only [List.cons_append, List.nil_append]
    try dsimp only [List.set_cons_zero, List.set_cons_succ]
    rw [u_seq]
    simp only [u_asg, u_gN, u_ret, u_retN, u_skip, u_expr, u_ifs, u_c, u_op, u_neg, u_test, u_and, u_or, u_not, u_if, u_nil, u_cons, u_tup, u_lst, u_callP, u_call, u_b, u_chain, u_andV, u_addI, u_subI, u_mulI, u_divI, u_modI, u_powI, u_cmpI, u_eqI, u_eqS, u_eqB, u_abs, u_intI, u_intB, u_newT, u_newF, u_isN, u_notN, wVar, List.set_cons_zero, List.set_cons_succ, List.getElem?_cons_zero, List.getElem?_cons_succ, List.length_cons, List.length_nil, u_lc, u_for, u_r1, u_r2, u_r3, u_num, u_notV, u_yes, u_w0, u_w1, u_dput, u_get2, u_dget, u_prop, u_fld, u_setF, u_make, u_makeS, u_met, u_calO, u_orT, u_tupIt, u_dc, u_maxDd, u_dnew, u_tupi, ix_p0, ix_p1, wSl, woNone, woSome]
    refine isX_go (b := false) (by simp [xtab])  (isX_go (b := false) (by simp [xtab])  (isX_go (b := false) (by simp [xtab])  ?_))
    refine ⟨sz_le (show 3 ≤ 100000 by decide), ?_⟩
    refine addL_go (by decide) ?_
    try dsimp only [List.cons_append, List.nil_append]
    try dsimp only [List.set_cons_zero, List.set_cons_succ]
    rw [u_seq]
    simp only [u_asg, u_gN, u_ret, u_retN, u_skip, u_expr, u_ifs, u_c, u_op, u_neg, u_test, u_and, u_or, u_not, u_if, u_nil, u_cons, u_tup, u_lst, u_callP, u_call, u_b, u_chain, u_andV, u_addI, u_subI, u_mulI, u_divI, u_modI, u_powI, u_cmpI, u_eqI, u_eqS, u_eqB, u_abs, u_intI, u_intB, u_newT, u_newF, u_isN, u_notN, wVar, List.set_cons_zero, List.set_cons_succ, List.getElem?_cons_zero, List.getElem?_cons_succ, List.length_cons, List.length_nil, u_lc, u_for, u_r1, u_r2, u_r3, u_num, u_notV, u_yes, u_w0, u_w1, u_dput, u_get2, u_dget, u_prop, u_fld, u_setF, u_make, u_makeS, u_met, u_calO, u_orT, u_tupIt, u_dc, u_maxDd, u_dnew, u_tupi, ix_p0, ix_p1, wSl, woNone, woSome]
    refine isX_go (b := false) (by simp [xtab])  (isX_go (b := false) (by simp [xtab])  (isX_go (b := false) (by simp [xtab])  ?_))
    refine ⟨sz_le (show 3 ≤ 100000 by decide), ?_⟩
    refine addL_go (by decide) ?_
    try dsimp only [List.cons_append, List.nil_append]
    try dsimp only [List.set_cons_zero, List.set_cons_succ]
    rw [u_seq]
    simp only [wMethT, u_asg, u_gN, u_ret, u_retN, u_skip, u_expr, u_ifs, u_c, u_op, u_neg, u_test, u_and, u_or, u_not, u_if, u_nil, u_cons, u_tup, u_lst, u_callP, u_call, u_b, u_chain, u_andV, u_addI, u_subI, u_mulI, u_divI, u_modI, u_powI, u_cmpI, u_eqI, u_eqS, u_eqB, u_abs, u_intI, u_intB, u_newT, u_newF, u_isN, u_notN, wVar, List.set_cons_zero, List.set_cons_succ, List.getElem?_cons_zero, List.getElem?_cons_succ, List.length_cons, List.length_nil, u_lc, u_for, u_r1, u_r2, u_r3, u_num, u_notV, u_yes, u_w0, u_w1, u_dput, u_get2, u_dget, u_prop, u_fld, u_setF, u_make, u_makeS, u_met, u_calO, u_orT, u_tupIt, u_dc, u_maxDd, u_dnew, u_tupi, ix_p0, ix_p1, wSl, woNone, woSome]
    refine ⟨⟨_, rfl⟩, [false, false, true, false, false, false, false, false, false, false, false, false, false, false, false, false, false, false, false, false, false, false, false, false], true, rfl, rfl, ?_⟩
    dsimp only
    rw [u_eqI, show (!decide (((([false, false, true, false, false, false, false, false, false, false, false, false, false, false, false, false, false, false, false, false, false, false, false, false] : List Bool).countP fun b => b == true : Nat) : Int) = 1)) = false from by decide]
    try dsimp only
    rw [if_neg (by decide)]
    try dsimp only [List.set_cons_zero, List.set_cons_succ]
    rw [u_seq]
    simp only [wMethT, u_asg, u_gN, u_ret, u_retN, u_skip, u_expr, u_ifs, u_c, u_op, u_neg, u_test, u_and, u_or, u_not, u_if, u_nil, u_cons, u_tup, u_lst, u_callP, u_call, u_b, u_chain, u_andV, u_addI, u_subI, u_mulI, u_divI, u_modI, u_powI, u_cmpI, u_eqI, u_eqS, u_eqB, u_abs, u_intI, u_intB, u_newT, u_newF, u_isN, u_notN, wVar, List.set_cons_zero, List.set_cons_succ, List.getElem?_cons_zero, List.getElem?_cons_succ, List.length_cons, List.length_nil, u_lc, u_for, u_r1, u_r2, u_r3, u_num, u_notV, u_yes, u_w0, u_w1, u_dput, u_get2, u_dget, u_prop, u_fld, u_setF, u_make, u_makeS, u_met, u_calO, u_orT, u_tupIt, u_dc, u_maxDd, u_dnew, u_tupi, ix_p0, ix_p1, wSl, woNone, woSome]
    refine ⟨⟨_, rfl⟩, [false, false, true, false, false, false, false, false, false, false, false, false, false, false, false, false, false, false, false, false, false, false, false, false], true, 2, rfl, rfl, rfl, ?_⟩
    try dsimp only [List.set_cons_zero, List.set_cons_succ]
    rw [u_seq]
    simp only [u_asg, u_gN, u_ret, u_retN, u_skip, u_expr, u_ifs, u_c, u_op, u_neg, u_test, u_and, u_or, u_not, u_if, u_nil, u_cons, u_tup, u_lst, u_callP, u_call, u_b, u_chain, u_andV, u_addI, u_subI, u_mulI, u_divI, u_modI, u_powI, u_cmpI, u_eqI, u_eqS, u_eqB, u_abs, u_intI, u_intB, u_newT, u_newF, u_isN, u_notN, wVar, List.set_cons_zero, List.set_cons_succ, List.getElem?_cons_zero, List.getElem?_cons_succ, List.length_cons, List.length_nil, u_lc, u_for, u_r1, u_r2, u_r3, u_num, u_notV, u_yes, u_w0, u_w1, u_dput, u_get2, u_dget, u_prop, u_fld, u_setF, u_make, u_makeS, u_met, u_calO, u_orT, u_tupIt, u_dc, u_maxDd, u_dnew, u_tupi, ix_p0, ix_p1, wSl, woNone, woSome]
    refine isX_go (b := true) (by simp [xtab])  (isX_go (b := false) (by simp [xtab])  (isX_go (b := false) (by simp [xtab])  ?_))
    refine ⟨sz_le (show 3 ≤ 100000 by decide), fun p1 hp1 => ?_⟩
    try dsimp only [List.set_cons_zero, List.set_cons_succ]
    rw [u_seq]
    simp only [wMethT, u_asg, u_gN, u_ret, u_retN, u_skip, u_expr, u_ifs, u_c, u_op, u_neg, u_test, u_and, u_or, u_not, u_if, u_nil, u_cons, u_tup, u_lst, u_callP, u_call, u_b, u_chain, u_andV, u_addI, u_subI, u_mulI, u_divI, u_modI, u_powI, u_cmpI, u_eqI, u_eqS, u_eqB, u_abs, u_intI, u_intB, u_newT, u_newF, u_isN, u_notN, wVar, List.set_cons_zero, List.set_cons_succ, List.getElem?_cons_zero, List.getElem?_cons_succ, List.length_cons, List.length_nil, u_lc, u_for, u_r1, u_r2, u_r3, u_num, u_notV, u_yes, u_w0, u_w1, u_dput, u_get2, u_dget, u_prop, u_fld, u_setF, u_make, u_makeS, u_met, u_calO, u_orT, u_tupIt, u_dc, u_maxDd, u_dnew, u_tupi, ix_p0, ix_p1, wSl, woNone, woSome]
    refine ⟨⟨_, lst_ref up_same⟩, isX_go (b := true) (by simp [xtab])  (isX_go (b := false) (by simp [xtab])  (isX_go (b := false) (by simp [xtab])  ?_))⟩
    refine ⟨sz_le (show 3 ≤ 100000 by decide), ?_⟩
    try simp only [u_asg, u_gN, u_ret, u_retN, u_skip, u_expr, u_ifs, u_c, u_op, u_neg, u_test, u_and, u_or, u_not, u_if, u_nil, u_cons, u_tup, u_lst, u_callP, u_call, u_b, u_chain, u_andV, u_addI, u_subI, u_mulI, u_divI, u_modI, u_powI, u_cmpI, u_eqI, u_eqS, u_eqB, u_abs, u_intI, u_intB, u_newT, u_newF, u_isN, u_notN, wVar, List.set_cons_zero, List.set_cons_succ, List.getElem?_cons_zero, List.getElem?_cons_succ, List.length_cons, List.length_nil, u_lc, u_for, u_r1, u_r2, u_r3, u_num, u_notV, u_yes, u_w0, u_w1, u_dput, u_get2, u_dget, u_prop, u_fld, u_setF, u_make, u_makeS, u_met, u_calO, u_orT, u_tupIt, u_dc, u_maxDd, u_dnew, u_tupi, ix_p0, ix_p1, wSl, woNone, woSome]
    rw [u_ixLd (show atI _ _ = some (D.bl true) from rfl)]
    refine ⟨p1, _, _, rfl, rfl, up_same, (Nat.lt_of_lt_of_le (show _ < 100000 by decide) DL.big_size), ?_⟩
    rw [up_up]
    try dsimp only [List.set_cons_zero, List.set_cons_succ]
    rw [u_seq]
    simp only [u_asg, u_gN, u_ret, u_retN, u_skip, u_expr, u_ifs, u_c, u_op, u_neg, u_test, u_and, u_or, u_not, u_if, u_nil, u_cons, u_tup, u_lst, u_callP, u_call, u_b, u_chain, u_andV, u_addI, u_subI, u_mulI, u_divI, u_modI, u_powI, u_cmpI, u_eqI, u_eqS, u_eqB, u_abs, u_intI, u_intB, u_newT, u_newF, u_isN, u_notN, wVar, List.set_cons_zero, List.set_cons_succ, List.getElem?_cons_zero, List.getElem?_cons_succ, List.length_cons, List.length_nil, u_lc, u_for, u_r1, u_r2, u_r3, u_num, u_notV, u_yes, u_w0, u_w1, u_dput, u_get2, u_dget, u_prop, u_fld, u_setF, u_make, u_makeS, u_met, u_calO, u_orT, u_tupIt, u_dc, u_maxDd, u_dnew, u_tupi, ix_p0, ix_p1, wSl, woNone, woSome]
    refine ⟨sz_le (show 11 ≤ 100000 by decide), ?_⟩
    try dsimp only [List.cons_append, List.nil_append]
    try dsimp only [List.set_cons_zero, List.set_cons_succ]
    rw [u_seq]
    simp only [u_asg, u_gN, u_ret, u_retN, u_skip, u_expr, u_ifs, u_c, u_op, u_neg, u_test, u_and, u_or, u_not, u_if, u_nil, u_cons, u_tup, u_lst, u_callP, u_call, u_b, u_chain, u_andV, u_addI, u_subI, u_mulI, u_divI, u_modI, u_powI, u_cmpI, u_eqI, u_eqS, u_eqB, u_abs, u_intI, u_intB, u_newT, u_newF, u_isN, u_notN, wVar, List.set_cons_zero, List.set_cons_succ, List.getElem?_cons_zero, List.getElem?_cons_succ, List.length_cons, List.length_nil, u_lc, u_for, u_r1, u_r2, u_r3, u_num, u_notV, u_yes, u_w0, u_w1, u_dput, u_get2, u_dget, u_prop, u_fld, u_setF, u_make, u_makeS, u_met, u_calO, u_orT, u_tupIt, u_dc, u_maxDd, u_dnew, u_tupi, ix_p0, ix_p1, wSl, woNone, woSome]
    refine ⟨sz_le (show 10 ≤ 100000 by decide), ?_⟩
    refine addL_go (by decide) ?_
    try dsimp only [List.cons_append, List.nil_append]
    try dsimp only [List.set_cons_zero, List.set_cons_succ]
    rw [u_seq]
    simp only [u_asg, u_gN, u_ret, u_retN, u_skip, u_expr, u_ifs, u_c, u_op, u_neg, u_test, u_and, u_or, u_not, u_if, u_nil, u_cons, u_tup, u_lst, u_callP, u_call, u_b, u_chain, u_andV, u_addI, u_subI, u_mulI, u_divI, u_modI, u_powI, u_cmpI, u_eqI, u_eqS, u_eqB, u_abs, u_intI, u_intB, u_newT, u_newF, u_isN, u_notN, wVar, List.set_cons_zero, List.set_cons_succ, List.getElem?_cons_zero, List.getElem?_cons_succ, List.length_cons, List.length_nil, u_lc, u_for, u_r1, u_r2, u_r3, u_num, u_notV, u_yes, u_w0, u_w1, u_dput, u_get2, u_dget, u_prop, u_fld, u_setF, u_make, u_makeS, u_met, u_calO, u_orT, u_tupIt, u_dc, u_maxDd, u_dnew, u_tupi, ix_p0, ix_p1, wSl, woNone, woSome]
    refine ⟨sz_le (show 3 ≤ 100000 by decide), ?_⟩
    refine addL_go (by decide) ?_
    try dsimp only [List.cons_append, List.nil_append]
    try simp only [u_asg, u_gN, u_ret, u_retN, u_skip, u_expr, u_ifs, u_c, u_op, u_neg, u_test, u_and, u_or, u_not, u_if, u_nil, u_cons, u_tup, u_lst, u_callP, u_call, u_b, u_chain, u_andV, u_addI, u_subI, u_mulI, u_divI, u_modI, u_powI, u_cmpI, u_eqI, u_eqS, u_eqB, u_abs, u_intI, u_intB, u_newT, u_newF, u_isN, u_notN, wVar, List.set_cons_zero, List.set_cons_succ, List.getElem?_cons_zero, List.getElem?_cons_succ, List.length_cons, List.length_nil, u_lc, u_for, u_r1, u_r2, u_r3, u_num, u_notV, u_yes, u_w0, u_w1, u_dput, u_get2, u_dget, u_prop, u_fld, u_setF, u_make, u_makeS, u_met, u_calO, u_orT, u_tupIt, u_dc, u_maxDd, u_dnew, u_tupi, ix_p0, ix_p1, wSl, woNone, woSome]
    rw [if_neg (by decide)]
    refine ⟨sz_le (show 4 ≤ 100000 by decide), ?_⟩
    refine same_ref (xs := ([true, false, false, true] : List Bool).map .bl) up_same (fl_bls _) (by decide) ?_
    try simp only [if_true]
    rw [u_ixLd (show atI _ _ = some (D.str "capacity") from rfl)]
    exact fin_sub (sub_up hp1) q
  | long v =>
    try dsimp only [List.set_cons_zero, List.set_cons_succ]
    rw [u_seq]
    simp only [u_asg, u_gN, u_ret, u_retN, u_skip, u_expr, u_ifs, u_c, u_op, u_neg, u_test, u_and, u_or, u_not, u_if, u_nil, u_cons, u_tup, u_lst, u_callP, u_call, u_b, u_chain, u_andV, u_addI, u_subI, u_mulI, u_divI, u_modI, u_powI, u_cmpI, u_eqI, u_eqS, u_eqB, u_abs, u_intI, u_intB, u_newT, u_newF, u_isN, u_notN, wVar, List.set_cons_zero, List.set_cons_succ, List.getElem?_cons_zero, List.getElem?_cons_succ, List.length_cons, List.length_nil, u_lc, u_for, u_r1, u_r2, u_r3, u_num, u_notV, u_yes, u_w0, u_w1, u_dput, u_get2, u_dget, u_prop, u_fld, u_setF, u_make, u_makeS, u_met, u_calO, u_orT, u_tupIt, u_dc, u_maxDd, u_dnew, u_tupi, ix_p0, ix_p1, wSl, woNone, woSome]
    refine isX_go (b := false) (by simp [xtab])  (isX_go (b := false) (by simp [xtab])  (isX_go (b := false) (by simp [xtab])  ?_))
    refine ⟨sz_le (show 3 ≤ 100000 by decide), ?_⟩
    try dsimp only [List.cons_append, List.nil_append]
    try dsimp only [List.set_cons_zero, List.set_cons_succ]
    rw [u_seq]
    simp only [u_asg, u_gN, u_ret, u_retN, u_skip, u_expr, u_ifs, u_c, u_op, u_neg, u_test, u_and, u_or, u_not, u_if, u_nil, u_cons, u_tup, u_lst, u_callP, u_call, u_b, u_chain, u_andV, u_addI, u_subI, u_mulI, u_divI, u_modI, u_powI, u_cmpI, u_eqI, u_eqS, u_eqB, u_abs, u_intI, u_intB, u_newT, u_newF, u_isN, u_notN, wVar, List.set_cons_zero, List.set_cons_succ, List.getElem?_cons_zero, List.getElem?_cons_succ, List.length_cons, List.length_nil, u_lc, u_for, u_r1, u_r2, u_r3, u_num, u_notV, u_yes, u_w0, u_w1, u_dput, u_get2, u_dget, u_prop, u_fld, u_setF, u_make, u_makeS, u_met, u_calO, u_orT, u_tupIt, u_dc, u_maxDd, u_dnew, u_tupi, ix_p0, ix_p1, wSl, woNone, woSome]
    refine isX_go (b := false) (by simp [xtab])  (isX_go (b := false) (by simp [xtab])  (isX_go (b := false) (by simp [xtab])  ?_))
    refine ⟨sz_le (show 3 ≤ 100000 by decide), ?_⟩
    refine addL_go (by decide) ?_
    try dsimp only [List.cons_append, List.nil_append]
    try dsimp only [List.set_cons_zero, List.set_cons_succ]
    rw [u_seq]
    simp only [u_asg, u_gN, u_ret, u_retN, u_skip, u_expr, u_ifs, u_c, u_op, u_neg, u_test, u_and, u_or, u_not, u_if, u_nil, u_cons, u_tup, u_lst, u_callP, u_call, u_b, u_chain, u_andV, u_addI, u_subI, u_mulI, u_divI, u_modI, u_powI, u_cmpI, u_eqI, u_eqS, u_eqB, u_abs, u_intI, u_intB, u_newT, u_newF, u_isN, u_notN, wVar, List.set_cons_zero, List.set_cons_succ, List.getElem?_cons_zero, List.getElem?_cons_succ, List.length_cons, List.length_nil, u_lc, u_for, u_r1, u_r2, u_r3, u_num, u_notV, u_yes, u_w0, u_w1, u_dput, u_get2, u_dget, u_prop, u_fld, u_setF, u_make, u_makeS, u_met, u_calO, u_orT, u_tupIt, u_dc, u_maxDd, u_dnew, u_tupi, ix_p0, ix_p1, wSl, woNone, woSome]
    refine isX_go (b := false) (by simp [xtab])  (isX_go (b := false) (by simp [xtab])  (isX_go (b := false) (by simp [xtab])  ?_))
    refine ⟨sz_le (show 3 ≤ 100000 by decide), ?_⟩
    refine addL_go (by decide) ?_
    try dsimp only [List.cons_append, List.nil_append]
    try dsimp only [List.set_cons_zero, List.set_cons_succ]
    rw [u_seq]
    simp only [u_asg, u_gN, u_ret, u_retN, u_skip, u_expr, u_ifs, u_c, u_op, u_neg, u_test, u_and, u_or, u_not, u_if, u_nil, u_cons, u_tup, u_lst, u_callP, u_call, u_b, u_chain, u_andV, u_addI, u_subI, u_mulI, u_divI, u_modI, u_powI, u_cmpI, u_eqI, u_eqS, u_eqB, u_abs, u_intI, u_intB, u_newT, u_newF, u_isN, u_notN, wVar, List.set_cons_zero, List.set_cons_succ, List.getElem?_cons_zero, List.getElem?_cons_succ, List.length_cons, List.length_nil, u_lc, u_for, u_r1, u_r2, u_r3, u_num, u_notV, u_yes, u_w0, u_w1, u_dput, u_get2, u_dget, u_prop, u_fld, u_setF, u_make, u_makeS, u_met, u_calO, u_orT, u_tupIt, u_dc, u_maxDd, u_dnew, u_tupi, ix_p0, ix_p1, wSl, woNone, woSome]
    refine isX_go (b := false) (by simp [xtab])  (isX_go (b := false) (by simp [xtab])  (isX_go (b := false) (by simp [xtab])  ?_))
    refine ⟨sz_le (show 3 ≤ 100000 by decide), ?_⟩
    refine addL_go (by decide) ?_
    try dsimp only [List.cons_append, List.nil_append]
    try dsimp only [List.set_cons_zero, List.set_cons_succ]
    rw [u_seq]
    simp only [u_asg, u_gN, u_ret, u_retN, u_skip, u_expr, u_ifs, u_c, u_op, u_neg, u_test, u_and, u_or, u_not, u_if, u_nil, u_cons, u_tup, u_lst, u_callP, u_call, u_b, u_chain, u_andV, u_addI, u_subI, u_mulI, u_divI, u_modI, u_powI, u_cmpI, u_eqI, u_eqS, u_eqB, u_abs, u_intI, u_intB, u_newT, u_newF, u_isN, u_notN, wVar, List.set_cons_zero, List.set_cons_succ, List.getElem?_cons_zero, List.getElem?_cons_succ, List.length_cons, List.length_nil, u_lc, u_for, u_r1, u_r2, u_r3, u_num, u_notV, u_yes, u_w0, u_w1, u_dput, u_get2, u_dget, u_prop, u_fld, u_setF, u_make, u_makeS, u_met, u_calO, u_orT, u_tupIt, u_dc, u_maxDd, u_dnew, u_tupi, ix_p0, ix_p1, wSl, woNone, woSome]
    refine isX_go (b := false) (by simp [xtab])  (isX_go (b := false) (by simp [xtab])  (isX_go (b := false) (by simp [xtab])  ?_))
    refine ⟨sz_le (show 3 ≤ 100000 by decide), ?_⟩
    refine addL_go (by decide) ?_
    try dsimp only [List.cons_append, List.nil_append]
    try dsimp only [List.set_cons_zero, List.set_cons_succ]
    rw [u_seq]
    simp only [u_asg, u_gN, u_ret, u_retN, u_skip, u_expr, u_ifs, u_c, u_op, u_neg, u_test, u_and, u_or, u_not, u_if, u_nil, u_cons, u_tup, u_lst, u_callP, u_call, u_b, u_chain, u_andV, u_addI, u_subI, u_mulI, u_divI, u_modI, u_powI, u_cmpI, u_eqI, u_eqS, u_eqB, u_abs, u_intI, u_intB, u_newT, u_newF, u_isN, u_notN, wVar, List.set_cons_zero, List.set_cons_succ, List.getElem?_cons_zero, List.getElem?_cons_succ, List.length_cons, List.length_nil, u_lc, u_for, u_r1, u_r2, u_r3, u_num, u_notV, u_yes, u_w0, u_w1, u_dput, u_get2, u_dget, u_prop, u_fld, u_setF, u_make, u_makeS, u_met, u_calO, u_orT, u_tupIt, u_dc, u_maxDd, u_dnew, u_tupi, ix_p0, ix_p1, wSl, woNone, woSome]
    refine isX_go (b := true) (by simp [xtab])  (isX_go (b := false) (by simp [xtab])  (isX_go (b := false) (by simp [xtab])  ?_))
    refine ⟨sz_le (show 3 ≤ 100000 by decide), ?_⟩
    refine addL_go (by decide) ?_
    try dsimp only [List.cons_append, List.nil_append]
    try dsimp only [List.set_cons_zero, List.set_cons_succ]
    rw [u_seq]
    simp only [u_asg, u_gN, u_ret, u_retN, u_skip, u_expr, u_ifs, u_c, u_op, u_neg, u_test, u_and, u_or, u_not, u_if, u_nil, u_cons, u_tup, u_lst, u_callP, u_call, u_b, u_chain, u_andV, u_addI, u_subI, u_mulI, u_divI, u_modI, u_powI, u_cmpI, u_eqI, u_eqS, u_eqB, u_abs, u_intI, u_intB, u_newT, u_newF, u_isN, u_notN, wVar, List.set_cons_zero, List.set_cons_succ, List.getElem?_cons_zero, List.getElem?_cons_succ, List.length_cons, List.length_nil, u_lc, u_for, u_r1, u_r2, u_r3, u_num, u_notV, u_yes, u_w0, u_w1, u_dput, u_get2, u_dget, u_prop, u_fld, u_setF, u_make, u_makeS, u_met, u_calO, u_orT, u_tupIt, u_dc, u_maxDd, u_dnew, u_tupi, ix_p0, ix_p1, wSl, woNone, woSome]
    refine isX_go (b := false) (by simp [xtab])  (isX_go (b := false) (by simp [xtab])  (isX_go (b := false) (by simp [xtab])  ?_))
    refine ⟨sz_le (show 3 ≤ 100000 by decide), ?_⟩
    refine addL_go (by decide) ?_
    try dsimp only [List.cons_append, List.nil_append]
    try dsimp only [List.set_cons_zero, List.set_cons_succ]
    rw [u_seq]
    simp only [u_asg, u_gN, u_ret, u_retN, u_skip, u_expr, u_ifs, u_c, u_op, u_neg, u_test, u_and, u_or, u_not, u_if, u_nil, u_cons, u_tup, u_lst, u_callP, u_call, u_b, u_chain, u_andV, u_addI, u_subI, u_mulI, u_divI, u_modI, u_powI, u_cmpI, u_eqI, u_eqS, u_eqB, u_abs, u_intI, u_intB, u_newT, u_newF, u_isN, u_notN, wVar, List.set_cons_zero, List.set_cons_succ, List.getElem?_cons_zero, List.getElem?_cons_succ, List.length_cons, List.length_nil, u_lc, u_for, u_r1, u_r2, u_r3, u_num, u_notV, u_yes, u_w0, u_w1, u_dput, u_get2, u_dget, u_prop, u_fld, u_setF, u_make, u_makeS, u_met, u_calO, u_orT, u_tupIt, u_dc, u_maxDd, u_dnew, u_tupi, ix_p0, ix_p1, wSl, woNone, woSome]
    refine isX_go (b := false) (by simp [xtab])  (isX_go (b := false) (by simp [xtab])  (isX_go (b := false) (by simp [xtab])  ?_))
    refine ⟨sz_le (show 3 ≤ 100000 by decide), ?_⟩
    refine addL_go (by decide) ?_
    try dsimp only [List.cons_append, List.nil_append]
    try dsimp only [List.set_cons_zero, List.set_cons_succ]
    rw [u_seq]
    simp only [wMethT, u_asg, u_gN, u_ret, u_retN, u_skip, u_expr, u_ifs, u_c, u_op, u_neg, u_test, u_and, u_or, u_not, u_if, u_nil, u_cons, u_tup, u_lst, u_callP, u_call, u_b, u_chain, u_andV, u_addI, u_subI, u_mulI, u_divI, u_modI, u_powI, u_cmpI, u_eqI, u_eqS, u_eqB, u_abs, u_intI, u_intB, u_newT, u_newF, u_isN, u_notN, wVar, List.set_cons_zero, List.set_cons_succ, List.getElem?_cons_zero, List.getElem?_cons_succ, List.length_cons, List.length_nil, u_lc, u_for, u_r1, u_r2, u_r3, u_num, u_notV, u_yes, u_w0, u_w1, u_dput, u_get2, u_dget, u_prop, u_fld, u_setF, u_make, u_makeS, u_met, u_calO, u_orT, u_tupIt, u_dc, u_maxDd, u_dnew, u_tupi, ix_p0, ix_p1, wSl, woNone, woSome]
    refine ⟨⟨_, rfl⟩, [false, false, false, false, false, false, false, false, false, false, false, false, false, false, false, true, false, false, false, false, false, false, false, false], true, rfl, rfl, ?_⟩
    dsimp only
    rw [u_eqI, show (!decide (((([false, false, false, false, false, false, false, false, false, false, false, false, false, false, false, true, false, false, false, false, false, false, false, false] : List Bool).countP fun b => b == true : Nat) : Int) = 1)) = false from by decide]
    try dsimp only
    rw [if_neg (by decide)]
    try dsimp only [List.set_cons_zero, List.set_cons_succ]
    rw [u_seq]
    simp only [wMethT, u_asg, u_gN, u_ret, u_retN, u_skip, u_expr, u_ifs, u_c, u_op, u_neg, u_test, u_and, u_or, u_not, u_if, u_nil, u_cons, u_tup, u_lst, u_callP, u_call, u_b, u_chain, u_andV, u_addI, u_subI, u_mulI, u_divI, u_modI, u_powI, u_cmpI, u_eqI, u_eqS, u_eqB, u_abs, u_intI, u_intB, u_newT, u_newF, u_isN, u_notN, wVar, List.set_cons_zero, List.set_cons_succ, List.getElem?_cons_zero, List.getElem?_cons_succ, List.length_cons, List.length_nil, u_lc, u_for, u_r1, u_r2, u_r3, u_num, u_notV, u_yes, u_w0, u_w1, u_dput, u_get2, u_dget, u_prop, u_fld, u_setF, u_make, u_makeS, u_met, u_calO, u_orT, u_tupIt, u_dc, u_maxDd, u_dnew, u_tupi, ix_p0, ix_p1, wSl, woNone, woSome]
    refine ⟨⟨_, rfl⟩, [false, false, false, false, false, false, false, false, false, false, false, false, false, false, false, true, false, false, false, false, false, false, false, false], true, 15, rfl, rfl, rfl, ?_⟩
    try dsimp only [List.set_cons_zero, List.set_cons_succ]
    rw [u_seq]
    simp only [u_asg, u_gN, u_ret, u_retN, u_skip, u_expr, u_ifs, u_c, u_op, u_neg, u_test, u_and, u_or, u_not, u_if, u_nil, u_cons, u_tup, u_lst, u_callP, u_call, u_b, u_chain, u_andV, u_addI, u_subI, u_mulI, u_divI, u_modI, u_powI, u_cmpI, u_eqI, u_eqS, u_eqB, u_abs, u_intI, u_intB, u_newT, u_newF, u_isN, u_notN, wVar, List.set_cons_zero, List.set_cons_succ, List.getElem?_cons_zero, List.getElem?_cons_succ, List.length_cons, List.length_nil, u_lc, u_for, u_r1, u_r2, u_r3, u_num, u_notV, u_yes, u_w0, u_w1, u_dput, u_get2, u_dget, u_prop, u_fld, u_setF, u_make, u_makeS, u_met, u_calO, u_orT, u_tupIt, u_dc, u_maxDd, u_dnew, u_tupi, ix_p0, ix_p1, wSl, woNone, woSome]
    refine isX_go (b := false) (by simp [xtab])  (isX_go (b := true) (by simp [xtab])  (isX_go (b := false) (by simp [xtab])  ?_))
    refine ⟨sz_le (show 3 ≤ 100000 by decide), fun p1 hp1 => ?_⟩
    try dsimp only [List.set_cons_zero, List.set_cons_succ]
    rw [u_seq]
    simp only [wMethT, u_asg, u_gN, u_ret, u_retN, u_skip, u_expr, u_ifs, u_c, u_op, u_neg, u_test, u_and, u_or, u_not, u_if, u_nil, u_cons, u_tup, u_lst, u_callP, u_call, u_b, u_chain, u_andV, u_addI, u_subI, u_mulI, u_divI, u_modI, u_powI, u_cmpI, u_eqI, u_eqS, u_eqB, u_abs, u_intI, u_intB, u_newT, u_newF, u_isN, u_notN, wVar, List.set_cons_zero, List.set_cons_succ, List.getElem?_cons_zero, List.getElem?_cons_succ, List.length_cons, List.length_nil, u_lc, u_for, u_r1, u_r2, u_r3, u_num, u_notV, u_yes, u_w0, u_w1, u_dput, u_get2, u_dget, u_prop, u_fld, u_setF, u_make, u_makeS, u_met, u_calO, u_orT, u_tupIt, u_dc, u_maxDd, u_dnew, u_tupi, ix_p0, ix_p1, wSl, woNone, woSome]
    refine ⟨⟨_, lst_ref up_same⟩, isX_go (b := false) (by simp [xtab])  (isX_go (b := true) (by simp [xtab])  (isX_go (b := false) (by simp [xtab])  ?_))⟩
    refine ⟨sz_le (show 3 ≤ 100000 by decide), ?_⟩
    try simp only [u_asg, u_gN, u_ret, u_retN, u_skip, u_expr, u_ifs, u_c, u_op, u_neg, u_test, u_and, u_or, u_not, u_if, u_nil, u_cons, u_tup, u_lst, u_callP, u_call, u_b, u_chain, u_andV, u_addI, u_subI, u_mulI, u_divI, u_modI, u_powI, u_cmpI, u_eqI, u_eqS, u_eqB, u_abs, u_intI, u_intB, u_newT, u_newF, u_isN, u_notN, wVar, List.set_cons_zero, List.set_cons_succ, List.getElem?_cons_zero, List.getElem?_cons_succ, List.length_cons, List.length_nil, u_lc, u_for, u_r1, u_r2, u_r3, u_num, u_notV, u_yes, u_w0, u_w1, u_dput, u_get2, u_dget, u_prop, u_fld, u_setF, u_make, u_makeS, u_met, u_calO, u_orT, u_tupIt, u_dc, u_maxDd, u_dnew, u_tupi, ix_p0, ix_p1, wSl, woNone, woSome]
    rw [u_ixLd (show atI _ _ = some (D.bl true) from rfl)]
    refine ⟨p1, _, _, rfl, rfl, up_same, (Nat.lt_of_lt_of_le (show _ < 100000 by decide) DL.big_size), ?_⟩
    rw [up_up]
    try dsimp only [List.set_cons_zero, List.set_cons_succ]
    rw [u_seq]
    simp only [u_asg, u_gN, u_ret, u_retN, u_skip, u_expr, u_ifs, u_c, u_op, u_neg, u_test, u_and, u_or, u_not, u_if, u_nil, u_cons, u_tup, u_lst, u_callP, u_call, u_b, u_chain, u_andV, u_addI, u_subI, u_mulI, u_divI, u_modI, u_powI, u_cmpI, u_eqI, u_eqS, u_eqB, u_abs, u_intI, u_intB, u_newT, u_newF, u_isN, u_notN, wVar, List.set_cons_zero, List.set_cons_succ, List.getElem?_cons_zero, List.getElem?_cons_succ, List.length_cons, List.length_nil, u_lc, u_for, u_r1, u_r2, u_r3, u_num, u_notV, u_yes, u_w0, u_w1, u_dput, u_get2, u_dget, u_prop, u_fld, u_setF, u_make, u_makeS, u_met, u_calO, u_orT, u_tupIt, u_dc, u_maxDd, u_dnew, u_tupi, ix_p0, ix_p1, wSl, woNone, woSome]
    refine ⟨sz_le (show 11 ≤ 100000 by decide), ?_⟩
    try dsimp only [List.cons_append, List.nil_append]
    try dsimp only [List.set_cons_zero, List.set_cons_succ]
    rw [u_seq]
    simp only [u_asg, u_gN, u_ret, u_retN, u_skip, u_expr, u_ifs, u_c, u_op, u_neg, u_test, u_and, u_or, u_not, u_if, u_nil, u_cons, u_tup, u_lst, u_callP, u_call, u_b, u_chain, u_andV, u_addI, u_subI, u_mulI, u_divI, u_modI, u_powI, u_cmpI, u_eqI, u_eqS, u_eqB, u_abs, u_intI, u_intB, u_newT, u_newF, u_isN, u_notN, wVar, List.set_cons_zero, List.set_cons_succ, List.getElem?_cons_zero, List.getElem?_cons_succ, List.length_cons, List.length_nil, u_lc, u_for, u_r1, u_r2, u_r3, u_num, u_notV, u_yes, u_w0, u_w1, u_dput, u_get2, u_dget, u_prop, u_fld, u_setF, u_make, u_makeS, u_met, u_calO, u_orT, u_tupIt, u_dc, u_maxDd, u_dnew, u_tupi, ix_p0, ix_p1, wSl, woNone, woSome]
    refine ⟨sz_le (show 10 ≤ 100000 by decide), ?_⟩
    refine addL_go (by decide) ?_
    try dsimp only [List.cons_append, List.nil_append]
    try dsimp only [List.set_cons_zero, List.set_cons_succ]
    rw [u_seq]
    simp only [u_asg, u_gN, u_ret, u_retN, u_skip, u_expr, u_ifs, u_c, u_op, u_neg, u_test, u_and, u_or, u_not, u_if, u_nil, u_cons, u_tup, u_lst, u_callP, u_call, u_b, u_chain, u_andV, u_addI, u_subI, u_mulI, u_divI, u_modI, u_powI, u_cmpI, u_eqI, u_eqS, u_eqB, u_abs, u_intI, u_intB, u_newT, u_newF, u_isN, u_notN, wVar, List.set_cons_zero, List.set_cons_succ, List.getElem?_cons_zero, List.getElem?_cons_succ, List.length_cons, List.length_nil, u_lc, u_for, u_r1, u_r2, u_r3, u_num, u_notV, u_yes, u_w0, u_w1, u_dput, u_get2, u_dget, u_prop, u_fld, u_setF, u_make, u_makeS, u_met, u_calO, u_orT, u_tupIt, u_dc, u_maxDd, u_dnew, u_tupi, ix_p0, ix_p1, wSl, woNone, woSome]
    refine ⟨sz_le (show 3 ≤ 100000 by decide), ?_⟩
    refine addL_go (by decide) ?_
    try dsimp only [List.cons_append, List.nil_append]
    try simp only [u_asg, u_gN, u_ret, u_retN, u_skip, u_expr, u_ifs, u_c, u_op, u_neg, u_test, u_and, u_or, u_not, u_if, u_nil, u_cons, u_tup, u_lst, u_callP, u_call, u_b, u_chain, u_andV, u_addI, u_subI, u_mulI, u_divI, u_modI, u_powI, u_cmpI, u_eqI, u_eqS, u_eqB, u_abs, u_intI, u_intB, u_newT, u_newF, u_isN, u_notN, wVar, List.set_cons_zero, List.set_cons_succ, List.getElem?_cons_zero, List.getElem?_cons_succ, List.length_cons, List.length_nil, u_lc, u_for, u_r1, u_r2, u_r3, u_num, u_notV, u_yes, u_w0, u_w1, u_dput, u_get2, u_dget, u_prop, u_fld, u_setF, u_make, u_makeS, u_met, u_calO, u_orT, u_tupIt, u_dc, u_maxDd, u_dnew, u_tupi, ix_p0, ix_p1, wSl, woNone, woSome]
    rw [if_pos (by decide)]
    refine ⟨sz_le (show 4 ≤ 100000 by decide), ?_⟩
    refine same_ref (xs := ([false, true, false, true] : List Bool).map .bl) up_same (fl_bls _) (by decide) ?_
    try simp only [if_true]
    rw [u_ixLd (show atI _ _ = some (D.str "long") from rfl)]
    exact fin_sub (sub_up hp1) q
end K26
namespace K26
open PySem PySem.Spec L2 C8 DL PK PL PQ PN PB F4 PR
theorem in_str {w : Str} {ws : List D} {b : Bool} {h : AH} {Q : KD} (hb : inD (.str w) ws = b) (hf : ws.all flatD = true) (q : Q (.bl b) h) : dIn false (.str w) (.tup ws) h Q := ⟨ws, rfl, rfl, hf, by subst hb; exact q⟩
theorem p__law_more_field (z : Ad) : ∀ ds h Q X, S__law_more_field z ds h Q X → w__law_more_field z (endsD Q X) (startD 2 ds) h := fun _ _ _ _ q => q.2.elim
theorem p__law_field (z : Ad) : ∀ ds h Q X, S__law_field z ds h Q X → w__law_field z (endsD Q X) (startD 2 ds) h := by
  rintro ds h Q X ⟨C, fs, w, v, rfl, hw, q⟩
  show w__law_field z (endsD Q X) [some (.str w), some (.xob C fs)] h
  unfold w__law_field
  cases hw with
  | cap v =>
    rw [u_seq]
    simp only [u_asg, u_gN, u_ret, u_retN, u_skip, u_expr, u_ifs, u_c, u_op, u_neg, u_test, u_and, u_or, u_not, u_if, u_nil, u_cons, u_tup, u_lst, u_callP, u_call, u_b, u_chain, u_andV, u_addI, u_subI, u_mulI, u_divI, u_modI, u_powI, u_cmpI, u_eqI, u_eqS, u_eqB, u_abs, u_intI, u_intB, u_newT, u_newF, u_isN, u_notN, wVar, List.set_cons_zero, List.set_cons_succ, List.getElem?_cons_zero, List.getElem?_cons_succ, List.length_cons, List.length_nil, u_lc, u_for, u_r1, u_r2, u_r3, u_num, u_notV, u_yes, u_w0, u_w1, u_dput, u_get2, u_dget, u_prop, u_fld, u_setF, u_make, u_makeS, u_met, u_calO, u_orT, u_tupIt, u_dc, u_maxDd, u_dnew, u_tupi, ix_p0, ix_p1, wSl, woNone, woSome]
    refine ⟨sz_le (show 5 ≤ 100000 by decide), in_str (b := true) (by decide +kernel) (by decide +kernel) ?_⟩
    dsimp only
    rw [if_pos rfl]
    simp only [wXFld, u_asg, u_gN, u_ret, u_retN, u_skip, u_expr, u_ifs, u_c, u_op, u_neg, u_test, u_and, u_or, u_not, u_if, u_nil, u_cons, u_tup, u_lst, u_callP, u_call, u_b, u_chain, u_andV, u_addI, u_subI, u_mulI, u_divI, u_modI, u_powI, u_cmpI, u_eqI, u_eqS, u_eqB, u_abs, u_intI, u_intB, u_newT, u_newF, u_isN, u_notN, wVar, List.set_cons_zero, List.set_cons_succ, List.getElem?_cons_zero, List.getElem?_cons_succ, List.length_cons, List.length_nil, u_lc, u_for, u_r1, u_r2, u_r3, u_num, u_notV, u_yes, u_w0, u_w1, u_dput, u_get2, u_dget, u_prop, u_fld, u_setF, u_make, u_makeS, u_met, u_calO, u_orT, u_tupIt, u_dc, u_maxDd, u_dnew, u_tupi, ix_p0, ix_p1, wSl, woNone, woSome]
    exact ⟨_, _, _, rfl, by simp, rfl, sz_le (show 1 ≤ 100000 by decide), fin_of q⟩
  | long v =>
    rw [u_seq]
    simp only [u_asg, u_gN, u_ret, u_retN, u_skip, u_expr, u_ifs, u_c, u_op, u_neg, u_test, u_and, u_or, u_not, u_if, u_nil, u_cons, u_tup, u_lst, u_callP, u_call, u_b, u_chain, u_andV, u_addI, u_subI, u_mulI, u_divI, u_modI, u_powI, u_cmpI, u_eqI, u_eqS, u_eqB, u_abs, u_intI, u_intB, u_newT, u_newF, u_isN, u_notN, wVar, List.set_cons_zero, List.set_cons_succ, List.getElem?_cons_zero, List.getElem?_cons_succ, List.length_cons, List.length_nil, u_lc, u_for, u_r1, u_r2, u_r3, u_num, u_notV, u_yes, u_w0, u_w1, u_dput, u_get2, u_dget, u_prop, u_fld, u_setF, u_make, u_makeS, u_met, u_calO, u_orT, u_tupIt, u_dc, u_maxDd, u_dnew, u_tupi, ix_p0, ix_p1, wSl, woNone, woSome]
    refine ⟨sz_le (show 5 ≤ 100000 by decide), in_str (b := false) (by decide +kernel) (by decide +kernel) ?_⟩
    dsimp only
    rw [if_neg (by decide), u_seq]
    simp only [u_asg, u_gN, u_ret, u_retN, u_skip, u_expr, u_ifs, u_c, u_op, u_neg, u_test, u_and, u_or, u_not, u_if, u_nil, u_cons, u_tup, u_lst, u_callP, u_call, u_b, u_chain, u_andV, u_addI, u_subI, u_mulI, u_divI, u_modI, u_powI, u_cmpI, u_eqI, u_eqS, u_eqB, u_abs, u_intI, u_intB, u_newT, u_newF, u_isN, u_notN, wVar, List.set_cons_zero, List.set_cons_succ, List.getElem?_cons_zero, List.getElem?_cons_succ, List.length_cons, List.length_nil, u_lc, u_for, u_r1, u_r2, u_r3, u_num, u_notV, u_yes, u_w0, u_w1, u_dput, u_get2, u_dget, u_prop, u_fld, u_setF, u_make, u_makeS, u_met, u_calO, u_orT, u_tupIt, u_dc, u_maxDd, u_dnew, u_tupi, ix_p0, ix_p1, wSl, woNone, woSome]
    refine ⟨sz_le (show 2 ≤ 100000 by decide), in_str (b := false) (by decide +kernel) (by decide +kernel) ?_⟩
    dsimp only
    rw [if_neg (by decide), u_seq]
    simp only [u_asg, u_gN, u_ret, u_retN, u_skip, u_expr, u_ifs, u_c, u_op, u_neg, u_test, u_and, u_or, u_not, u_if, u_nil, u_cons, u_tup, u_lst, u_callP, u_call, u_b, u_chain, u_andV, u_addI, u_subI, u_mulI, u_divI, u_modI, u_powI, u_cmpI, u_eqI, u_eqS, u_eqB, u_abs, u_intI, u_intB, u_newT, u_newF, u_isN, u_notN, wVar, List.set_cons_zero, List.set_cons_succ, List.getElem?_cons_zero, List.getElem?_cons_succ, List.length_cons, List.length_nil, u_lc, u_for, u_r1, u_r2, u_r3, u_num, u_notV, u_yes, u_w0, u_w1, u_dput, u_get2, u_dget, u_prop, u_fld, u_setF, u_make, u_makeS, u_met, u_calO, u_orT, u_tupIt, u_dc, u_maxDd, u_dnew, u_tupi, ix_p0, ix_p1, wSl, woNone, woSome]
    refine ⟨sz_le (show 2 ≤ 100000 by decide), in_str (b := false) (by decide +kernel) (by decide +kernel) ?_⟩
    dsimp only
    rw [if_neg (by decide), u_seq]
    simp only [u_asg, u_gN, u_ret, u_retN, u_skip, u_expr, u_ifs, u_c, u_op, u_neg, u_test, u_and, u_or, u_not, u_if, u_nil, u_cons, u_tup, u_lst, u_callP, u_call, u_b, u_chain, u_andV, u_addI, u_subI, u_mulI, u_divI, u_modI, u_powI, u_cmpI, u_eqI, u_eqS, u_eqB, u_abs, u_intI, u_intB, u_newT, u_newF, u_isN, u_notN, wVar, List.set_cons_zero, List.set_cons_succ, List.getElem?_cons_zero, List.getElem?_cons_succ, List.length_cons, List.length_nil, u_lc, u_for, u_r1, u_r2, u_r3, u_num, u_notV, u_yes, u_w0, u_w1, u_dput, u_get2, u_dget, u_prop, u_fld, u_setF, u_make, u_makeS, u_met, u_calO, u_orT, u_tupIt, u_dc, u_maxDd, u_dnew, u_tupi, ix_p0, ix_p1, wSl, woNone, woSome]
    refine ⟨sz_le (show 2 ≤ 100000 by decide), in_str (b := false) (by decide +kernel) (by decide +kernel) ?_⟩
    dsimp only
    rw [if_neg (by decide), u_seq]
    simp only [u_asg, u_gN, u_ret, u_retN, u_skip, u_expr, u_ifs, u_c, u_op, u_neg, u_test, u_and, u_or, u_not, u_if, u_nil, u_cons, u_tup, u_lst, u_callP, u_call, u_b, u_chain, u_andV, u_addI, u_subI, u_mulI, u_divI, u_modI, u_powI, u_cmpI, u_eqI, u_eqS, u_eqB, u_abs, u_intI, u_intB, u_newT, u_newF, u_isN, u_notN, wVar, List.set_cons_zero, List.set_cons_succ, List.getElem?_cons_zero, List.getElem?_cons_succ, List.length_cons, List.length_nil, u_lc, u_for, u_r1, u_r2, u_r3, u_num, u_notV, u_yes, u_w0, u_w1, u_dput, u_get2, u_dget, u_prop, u_fld, u_setF, u_make, u_makeS, u_met, u_calO, u_orT, u_tupIt, u_dc, u_maxDd, u_dnew, u_tupi, ix_p0, ix_p1, wSl, woNone, woSome]
    rw [if_neg (by decide +kernel), u_seq]
    simp only [u_asg, u_gN, u_ret, u_retN, u_skip, u_expr, u_ifs, u_c, u_op, u_neg, u_test, u_and, u_or, u_not, u_if, u_nil, u_cons, u_tup, u_lst, u_callP, u_call, u_b, u_chain, u_andV, u_addI, u_subI, u_mulI, u_divI, u_modI, u_powI, u_cmpI, u_eqI, u_eqS, u_eqB, u_abs, u_intI, u_intB, u_newT, u_newF, u_isN, u_notN, wVar, List.set_cons_zero, List.set_cons_succ, List.getElem?_cons_zero, List.getElem?_cons_succ, List.length_cons, List.length_nil, u_lc, u_for, u_r1, u_r2, u_r3, u_num, u_notV, u_yes, u_w0, u_w1, u_dput, u_get2, u_dget, u_prop, u_fld, u_setF, u_make, u_makeS, u_met, u_calO, u_orT, u_tupIt, u_dc, u_maxDd, u_dnew, u_tupi, ix_p0, ix_p1, wSl, woNone, woSome]
    rw [if_neg (by decide +kernel), u_seq]
    simp only [u_asg, u_gN, u_ret, u_retN, u_skip, u_expr, u_ifs, u_c, u_op, u_neg, u_test, u_and, u_or, u_not, u_if, u_nil, u_cons, u_tup, u_lst, u_callP, u_call, u_b, u_chain, u_andV, u_addI, u_subI, u_mulI, u_divI, u_modI, u_powI, u_cmpI, u_eqI, u_eqS, u_eqB, u_abs, u_intI, u_intB, u_newT, u_newF, u_isN, u_notN, wVar, List.set_cons_zero, List.set_cons_succ, List.getElem?_cons_zero, List.getElem?_cons_succ, List.length_cons, List.length_nil, u_lc, u_for, u_r1, u_r2, u_r3, u_num, u_notV, u_yes, u_w0, u_w1, u_dput, u_get2, u_dget, u_prop, u_fld, u_setF, u_make, u_makeS, u_met, u_calO, u_orT, u_tupIt, u_dc, u_maxDd, u_dnew, u_tupi, ix_p0, ix_p1, wSl, woNone, woSome]
    rw [if_neg (by decide +kernel), u_seq]
    simp only [u_asg, u_gN, u_ret, u_retN, u_skip, u_expr, u_ifs, u_c, u_op, u_neg, u_test, u_and, u_or, u_not, u_if, u_nil, u_cons, u_tup, u_lst, u_callP, u_call, u_b, u_chain, u_andV, u_addI, u_subI, u_mulI, u_divI, u_modI, u_powI, u_cmpI, u_eqI, u_eqS, u_eqB, u_abs, u_intI, u_intB, u_newT, u_newF, u_isN, u_notN, wVar, List.set_cons_zero, List.set_cons_succ, List.getElem?_cons_zero, List.getElem?_cons_succ, List.length_cons, List.length_nil, u_lc, u_for, u_r1, u_r2, u_r3, u_num, u_notV, u_yes, u_w0, u_w1, u_dput, u_get2, u_dget, u_prop, u_fld, u_setF, u_make, u_makeS, u_met, u_calO, u_orT, u_tupIt, u_dc, u_maxDd, u_dnew, u_tupi, ix_p0, ix_p1, wSl, woNone, woSome]
    rw [if_neg (by decide +kernel), u_seq]
    simp only [u_asg, u_gN, u_ret, u_retN, u_skip, u_expr, u_ifs, u_c, u_op, u_neg, u_test, u_and, u_or, u_not, u_if, u_nil, u_cons, u_tup, u_lst, u_callP, u_call, u_b, u_chain, u_andV, u_addI, u_subI, u_mulI, u_divI, u_modI, u_powI, u_cmpI, u_eqI, u_eqS, u_eqB, u_abs, u_intI, u_intB, u_newT, u_newF, u_isN, u_notN, wVar, List.set_cons_zero, List.set_cons_succ, List.getElem?_cons_zero, List.getElem?_cons_succ, List.length_cons, List.length_nil, u_lc, u_for, u_r1, u_r2, u_r3, u_num, u_notV, u_yes, u_w0, u_w1, u_dput, u_get2, u_dget, u_prop, u_fld, u_setF, u_make, u_makeS, u_met, u_calO, u_orT, u_tupIt, u_dc, u_maxDd, u_dnew, u_tupi, ix_p0, ix_p1, wSl, woNone, woSome]
    rw [if_pos (by decide +kernel)]
    simp only [wXFld, u_asg, u_gN, u_ret, u_retN, u_skip, u_expr, u_ifs, u_c, u_op, u_neg, u_test, u_and, u_or, u_not, u_if, u_nil, u_cons, u_tup, u_lst, u_callP, u_call, u_b, u_chain, u_andV, u_addI, u_subI, u_mulI, u_divI, u_modI, u_powI, u_cmpI, u_eqI, u_eqS, u_eqB, u_abs, u_intI, u_intB, u_newT, u_newF, u_isN, u_notN, wVar, List.set_cons_zero, List.set_cons_succ, List.getElem?_cons_zero, List.getElem?_cons_succ, List.length_cons, List.length_nil, u_lc, u_for, u_r1, u_r2, u_r3, u_num, u_notV, u_yes, u_w0, u_w1, u_dput, u_get2, u_dget, u_prop, u_fld, u_setF, u_make, u_makeS, u_met, u_calO, u_orT, u_tupIt, u_dc, u_maxDd, u_dnew, u_tupi, ix_p0, ix_p1, wSl, woNone, woSome]
    exact ⟨_, _, _, rfl, by simp, rfl, sz_le (show 1 ≤ 100000 by decide), fin_of q⟩
theorem p__law_heard (z : Ad) : ∀ d tl, MoK tl → ∀ h Q X, S__law_heard z tl h Q X → w__law_heard z d tl (endsD Q X) (startD 4 [d]) h := by
  intro d tl mt h Q X q
  show w__law_heard z d tl (endsD Q X) [some d, none, none, none] h
  unfold w__law_heard
  rw [u_seq, u_asg, u_c, u_gN]
  dsimp only [List.set_cons_zero, List.set_cons_succ]
  rw [u_seq, u_try]
  refine ⟨rfl, mt _ _ _ _ _ (fun d h' q => ?_) (fun x h' q => ?_) q⟩
  · show 1 ≤ sizeLine ∧ _
    exact ⟨sz_le (by decide), fin_of q⟩
  · obtain ⟨C, fs, w, v, rfl, hw, q⟩ := q
    refine ⟨by cases hw <;> simp [errs], ?_⟩
    dsimp only [List.replicate, List.set_cons_succ, List.set_cons_zero]
    rw [u_seq, u_asg]
    simp only [u_callP, u_cons, u_nil]
    rw [u_var rfl]
    refine ⟨rfl, C, fs, w, v, rfl, hw, ?_⟩
    try dsimp only
    rw [u_gN]
    dsimp only [List.set_cons_succ, List.set_cons_zero]
    rw [u_ret, u_b]
    simp only [u_cons, u_nil, u_op, u_lst]
    rw [u_var rfl]
    try dsimp only
    refine ⟨sz_le (show 1 ≤ 100000 by decide), ?_⟩
    rw [u_newF, u_callP]
    simp only [u_cons, u_nil]
    rw [u_var rfl]
    try dsimp only
    rw [u_var rfl]
    refine ⟨rfl, C, fs, w, v, rfl, hw, ?_⟩
    refine addL_go (show 2 ≤ 100000 by decide) ?_
    simp only [List.cons_append, List.nil_append]
    exact ⟨_, _, rfl, rfl, fin_of q⟩
end K26
namespace K26
open PySem PySem.Spec L2 C8 DL PK PL PQ PN PB F4 PR
theorem pw30 : PowOk 10 30 := ⟨by decide, by decide, by decide⟩
theorem pw6 : PowOk 10 6 := ⟨by decide, by decide, by decide⟩
theorem pw59 : PowOk 10 59 := ⟨by decide, by decide, by decide⟩
theorem pw20 : PowOk 10 20 := ⟨by decide, by decide, by decide⟩
theorem pw45 : PowOk 2 45 := ⟨by decide, by decide, by decide⟩
theorem p__law_offset (z : Ad) : ∀ ds h Q X, S__law_offset z ds h Q X → w__law_offset z (endsD Q X) (startD 1 ds) h := by
  rintro ds h Q X ⟨n, p, rfl, I, hn, q⟩
  show w__law_offset z (endsD Q X) [some (.ref p)] h
  replace I := Inv0.start I
  unfold w__law_offset
  simp only [u_ret, u_op, u_lst, u_cons, u_c, u_nil, u_callP]
  rw [u_var rfl]
  refine ⟨rfl, draw_go I (by omega) (div_ok (by decide) (by decide)) fun v1 o a1 b1 I _ => ?_⟩
  generalize up _ p o = g1 at I ⊢
  rw [u_var rfl]
  refine ⟨rfl, draw_go I (by omega) (div_ok (by decide) (by decide)) fun v2 o a2 b2 I _ => ?_⟩
  generalize up _ p o = g1 at I ⊢
  refine ⟨pw6, ?_⟩
  rw [show (10 : Int) ^ Int.toNat 6 = 1000000 from by decide]
  try dsimp only
  rw [u_var rfl]
  refine ⟨rfl, draw_go I (by omega) (div_ok (by decide) (by decide)) fun v3 o a3 b3 I _ => ?_⟩
  generalize up _ p o = g1 at I ⊢
  rw [u_subI]
  refine ⟨sz_le (show 4 ≤ 100000 by decide), ?_⟩
  rw [u_newF, u_var rfl]
  refine ⟨rfl, draw_go I (by omega) (div_ok (by decide) (by decide)) fun v4 o a4 b4 I _ => ?_⟩
  generalize up _ p o = g1 at I ⊢
  refine at_some (es := [v1, v2, 1000000 - v3, 2520]) a4 (by simpa using b4) fun u hu => ?_
  have hu : 0 ≤ u ∧ u ≤ 1000000 := by
    have : u = v1 ∨ u = v2 ∨ u = 1000000 - v3 ∨ u = 2520 := by simpa using hu
    omega
  obtain ⟨o', s1, s2⟩ := I.sub
  exact fin_sub s2 (q u o' hu.1 hu.2 (s1.mono (by omega)))
theorem p__law_amount (z : Ad) : ∀ ds h Q X, S__law_amount z ds h Q X → w__law_amount z (endsD Q X) (startD 2 ds) h := by
  rintro ds h Q X ⟨n, p, rfl, I, hn, q⟩
  show w__law_amount z (endsD Q X) [some (.ref p), none] h
  replace I := Inv0.start I
  unfold w__law_amount
  rw [u_seq, u_asg]
  simp only [u_ret, u_op, u_lst, u_cons, u_c, u_nil, u_callP, u_neg]
  rw [u_var rfl]
  refine ⟨rfl, draw_go I (by omega) (div_ok (by decide) (by decide)) fun v1 o a1 b1 I _ => ?_⟩
  generalize up _ p o = g1 at I ⊢
  rw [u_subI]
  refine ⟨pw30, ?_⟩
  generalize hM : (10 : Int) ^ Int.toNat 30 = M
  have hM : (10 : Int) ^ 30 = M := hM
  rw [u_var rfl]
  refine ⟨rfl, draw_go I (by omega) (div_ok (by decide) (by decide)) fun v2 o a2 b2 I _ => ?_⟩
  generalize up _ p o = g1 at I ⊢
  rw [u_subI]
  refine ⟨pw45, pw45, ?_⟩
  rw [show (2 : Int) ^ Int.toNat 45 = 35184372088832 from by decide]
  refine ⟨.inl ⟨by decide, by decide⟩, ?_⟩
  try dsimp only
  rw [u_subI]
  refine ⟨sz_le (show 2 ≤ 100000 by decide), ?_⟩
  rw [u_newF, u_var rfl]
  refine ⟨rfl, draw_go I (by omega) (div_ok (by decide) (by decide)) fun v3 o a3 b3 I _ => ?_⟩
  generalize up _ p o = g1 at I ⊢
  refine at_some (es := [1, -1]) a3 (by simpa using b3) fun u1 hu1 => ?_
  have hu1 : u1 = 1 ∨ u1 = -1 := by simpa using hu1
  refine ⟨sz_le (show 4 ≤ 100000 by decide), ?_⟩
  rw [u_newF, u_gN]
  dsimp only [List.set_cons_zero, List.set_cons_succ]
  simp only [u_ret, u_op, u_lst, u_cons, u_c, u_nil, u_callP, u_neg]
  rw [u_var rfl]
  try dsimp only
  refine ⟨sz_le (show 6 ≤ 100000 by decide), ?_⟩
  rw [u_newF, u_var rfl]
  refine ⟨rfl, draw_go I (by omega) (div_ok (by decide) (by decide)) fun v4 o a4 b4 I _ => ?_⟩
  generalize up _ p o = g1 at I ⊢
  refine at_some (es := [0, 0, 3, 3, 1, 2]) a4 (by simpa using b4) fun u2 hu2 => ?_
  have hu2 : 0 ≤ u2 ∧ u2 < 4 := by
    have : u2 = 0 ∨ u2 = 3 ∨ u2 = 1 ∨ u2 = 2 := by simpa using hu2
    omega
  refine at_some (es := [v1 - 3, M - v2, 0 - 35184372088832 * 35184372088832, u1]) hu2.1 (by simpa using hu2.2) fun u hu => ?_
  have hu : u.natAbs < 2 ^ 100 := by
    have : u = v1 - 3 ∨ u = M - v2 ∨ u = 0 - 35184372088832 * 35184372088832 ∨ u = u1 := by simpa using hu
    rw [← hM] at this
    omega
  obtain ⟨o', s1, s2⟩ := I.sub
  exact fin_sub s2 (q u o' hu (s1.mono (by omega)))
end K26
namespace K26
open PySem PySem.Spec L2 C8 DL PK PL PQ PN PB F4 PR
theorem at_neg1 {xs : List D} {x : D} : atI (xs ++ [x]) (-1) = some x := by
  have h1 : ixN (xs ++ [x]).length (-1) = some xs.length := by
    unfold ixN
    rw [if_neg (by decide), List.length_append]
    simp
    omega
  unfold atI
  rw [h1]
  simp
theorem pr0 {e : Int × Int} {h : AH} {Q : KD} : dIx (pairD e) (.int 0) h Q = Q (.int e.1) h := u_ixTd (xs := [D.int e.1, D.int e.2]) rfl
theorem pr1 {e : Int × Int} {h : AH} {Q : KD} : dIx (pairD e) (.int 1) h Q = Q (.int e.2) h := u_ixTd (xs := [D.int e.1, D.int e.2]) rfl
theorem p__law_rows (z : Ad) : ∀ ds h Q X, S__law_rows z ds h Q X → w__law_rows z (endsD Q X) (startD 5 ds) h := by
  rintro ds h Q X ⟨n, p, rfl, I, hn, q⟩
  show w__law_rows z (endsD Q X) [some (.ref p), some (.int 6), none, none, none] h
  replace I := Inv0.start I
  have big := DL.big_size
  unfold w__law_rows
  rw [u_seq, u_asg, u_lst]
  simp only [u_nil]
  refine ⟨sz_le (by decide), fun f hf => ?_⟩
  have f0 := I.fresh hf
  replace I := I.new (o := .lst []) hf
  have hf1 : (up h f (.lst [])) f = some (.lst (([] : Prs).map pairD)) := up_same
  try dsimp only
  rw [u_gN]
  dsimp only [List.set_cons_zero, List.set_cons_succ]
  generalize up h f (.lst []) = g1 at I hf1 ⊢
  rw [u_seq, u_for, u_r1]
  simp only [u_callP, u_cons, u_nil, u_op, u_c]
  rw [u_var rfl]
  try dsimp only
  rw [u_var rfl]
  try dsimp only
  rw [u_addI]
  refine ⟨rfl, draw_go I (by omega) (div_ok (by decide) (by decide)) fun many o a b I _ => ?_⟩
  have hf1 : (up g1 p o) f = some (.lst (([] : Prs).map pairD)) := by rw [up_ne f0.2]; exact hf1
  generalize up g1 p o = g1 at I hf1 ⊢
  obtain ⟨mn, rfl⟩ := Int.eq_ofNat_of_zero_le a
  try dsimp only
  refine ⟨by omega, by omega, ?_⟩
  rw [Int.toNat_natCast]
  refine loop_go (fun i ρ g => ∃ (rows : Prs) (r3 r4 : Option D), ρ = [some (.ref p), some (.int 6), some (.ref f), r3, r4] ∧ Inv0 h p (n + 1 + 9 * (i : Nat)) g ∧ g f = some (.lst (rows.map pairD)) ∧ rows.length = i ∧ InR rows ∧ ∀ e ∈ rows, e.2.natAbs < 2 ^ 100)
    ⟨[], none, none, rfl, by simpa using I, hf1, rfl, (fun e he => by cases he), (fun e he => by cases he)⟩ (fun _ _ _ _ => trivial) ?_ ?_
  · rintro i x ρ g K hi ⟨rows, r3, r4, rfl, I, hg, hl, hr, hs⟩ k
    obtain ⟨rfl, li⟩ := intsD_get hi
    try dsimp only
    rw [u_gN]
    dsimp only [List.set_cons_zero, List.set_cons_succ]
    rw [u_seq, u_asg, u_tup]
    simp only [u_callP, u_cons, u_nil, u_op, u_c]
    rw [u_var rfl]
    refine ⟨rfl, _, p, rfl, I.pen, by omega, fun v o v0 v1 po => ?_⟩
    have I2 := I.draw po
    have hg : (up g p o) f = some (.lst (rows.map pairD)) := by rw [up_ne f0.2]; exact hg
    generalize up g p o = g2 at I2 hg ⊢
    try dsimp only
    rw [u_var rfl]
    refine ⟨rfl, _, p, rfl, I2.pen, by omega, fun u o u0 po => ?_⟩
    have I3 := I2.draw po
    have hg : (up g2 p o) f = some (.lst (rows.map pairD)) := by rw [up_ne f0.2]; exact hg
    generalize up g2 p o = g3 at I3 hg ⊢
    refine ⟨sz_le (show 2 ≤ 100000 by decide), ?_⟩
    try dsimp only
    rw [u_gN]
    dsimp only [List.set_cons_zero, List.set_cons_succ]
    refine seq_go (fun ρ h' => ∃ e : Int × Int, ρ = [some (.ref p), some (.int 6), some (.ref f), some (.int (0 + (i : Nat))), some (pairD e)] ∧ Inv0 h p (n + 1 + 9 * ((i + 1 : Nat) : Int)) h' ∧ h' f = some (.lst (rows.map pairD)) ∧ 0 ≤ e.1 ∧ e.1 ≤ 1000000 ∧ e.2.natAbs < 2 ^ 100) (fun K k => ?_) ?_
    · have done : ∀ (e : Int × Int) g4, Inv0 h p (n + 1 + 9 * ((i + 1 : Nat) : Int)) g4 → g4 f = some (.lst (rows.map pairD)) → 0 ≤ e.1 → e.1 ≤ 1000000 → e.2.natAbs < 2 ^ 100 → K [some (.ref p), some (.int 6), some (.ref f), some (.int (0 + (i : Nat))), some (pairD e)] g4 := fun e g4 h1 h2 h3 h4 h5 => k _ _ ⟨e, rfl, h1, h2, h3, h4, h5⟩
      simp only [u_asg, u_gN, u_ret, u_retN, u_skip, u_expr, u_ifs, u_c, u_op, u_neg, u_test, u_and, u_or, u_not, u_if, u_nil, u_cons, u_tup, u_lst, u_callP, u_call, u_b, u_chain, u_andV, u_addI, u_subI, u_mulI, u_divI, u_modI, u_powI, u_cmpI, u_eqI, u_eqS, u_eqB, u_abs, u_intI, u_intB, u_newT, u_newF, u_isN, u_notN, wVar, List.set_cons_zero, List.set_cons_succ, List.getElem?_cons_zero, List.getElem?_cons_succ, List.length_cons, List.length_nil, u_lc, u_for, u_r1, u_r2, u_r3, u_num, u_notV, u_yes, u_w0, u_w1, u_dput, u_get2, u_dget, u_prop, u_fld, u_setF, u_make, u_makeS, u_met, u_calO, u_orT, u_tupIt, u_dc, u_maxDd, u_dnew, u_tupi, ix_p0, ix_p1, wSl, woNone, woSome]
      refine ⟨Nat.zero_le _, nil_ref hg (fl_lst (fl_pairs rows)) (by decide) ?_⟩
      try dsimp only
      cases rows with
      | nil =>
        rw [if_neg (by decide), if_neg (by decide)]
        exact done (v, u) _ (I3.mono (by omega)) hg v0 v1 u0
      | cons r rs =>
        rw [if_pos (show (!(List.map pairD (r :: rs)).isEmpty) = true from rfl)]
        refine ⟨trivial, draw_go I3 (by omega) (div_ok (by decide) (by decide)) fun w o a b I4 _ => ?_⟩
        have hg : (up g3 p o) f = some (.lst ((r :: rs).map pairD)) := by rw [up_ne f0.2]; exact hg
        generalize up g3 p o = g4 at I4 hg ⊢
        rw [u_eqI]
        try dsimp only
        by_cases c : w = 0
        · rw [if_pos (decide_eq_true c)]
          obtain ⟨fs, e, he⟩ : ∃ fs e, r :: rs = fs ++ [e] := ⟨(r :: rs).dropLast, (r :: rs).getLast (by simp), (List.dropLast_concat_getLast (by simp)).symm⟩
          have em : e ∈ r :: rs := by rw [he]; simp
          have re := hr e em
          have se := hs e em
          have at1 : atI ((r :: rs).map pairD) (-1) = some (pairD e) := by rw [he, List.map_append]; exact at_neg1
          rw [u_ixRd hg at1, pr0, u_ixRd hg at1, pr1, u_subI]
          refine ⟨sz_le (show 2 ≤ 100000 by decide), ?_⟩
          exact done (e.1, 0 - e.2) _ (I4.mono (by omega)) hg re.1 re.2 (by show (0 - e.2).natAbs < _; omega)
        · rw [if_neg (by rw [decide_eq_false c]; decide)]
          exact done (v, u) _ (I4.mono (by omega)) hg v0 v1 u0
    rintro _ g4 ⟨e, rfl, I4, hg, e0, e1, e2⟩
    simp only [wMethT, u_asg, u_gN, u_ret, u_retN, u_skip, u_expr, u_ifs, u_c, u_op, u_neg, u_test, u_and, u_or, u_not, u_if, u_nil, u_cons, u_tup, u_lst, u_callP, u_call, u_b, u_chain, u_andV, u_addI, u_subI, u_mulI, u_divI, u_modI, u_powI, u_cmpI, u_eqI, u_eqS, u_eqB, u_abs, u_intI, u_intB, u_newT, u_newF, u_isN, u_notN, wVar, List.set_cons_zero, List.set_cons_succ, List.getElem?_cons_zero, List.getElem?_cons_succ, List.length_cons, List.length_nil, u_lc, u_for, u_r1, u_r2, u_r3, u_num, u_notV, u_yes, u_w0, u_w1, u_dput, u_get2, u_dget, u_prop, u_fld, u_setF, u_make, u_makeS, u_met, u_calO, u_orT, u_tupIt, u_dc, u_maxDd, u_dnew, u_tupi, ix_p0, ix_p1, wSl, woNone, woSome]
    refine ⟨⟨_, lst_ref hg⟩, f, _, _, rfl, rfl, hg, ?_, ?_⟩
    · rw [List.length_map]; exact Nat.lt_of_lt_of_le (show rows.length < 100000 by omega) big
    refine k _ _ ⟨rows ++ [e], _, _, rfl, I4.put f0.1, by rw [up_same, List.map_append]; rfl, by rw [List.length_append, hl]; rfl, hr.append fun x hx => ?_, fun x hx => ?_⟩
    · rw [List.mem_singleton] at hx; rw [hx]; exact ⟨e0, e1⟩
    · rcases List.mem_append.mp hx with hx | hx
      · exact hs x hx
      · rw [List.mem_singleton] at hx; rw [hx]; exact e2
  · rintro ρ g ⟨rows, r3, r4, rfl, I, hg, hl, hr, hs⟩
    rw [intsD_len] at I hl
    try dsimp only
    rw [u_ret, u_var rfl]
    obtain ⟨o', s1, s2⟩ := I.sub
    exact ⟨_, _, .lst hg (by rw [up_ne f0.2]; exact f0.1) s2, q rows o' ⟨hr, by omega, hs⟩ (s1.mono (by omega))⟩
end K26
namespace K26
open PySem PySem.Spec L2 C8 DL PK PL PQ PN PB F4 PR
def fS (es : Prs) (x : D) : Option D := match x with
  | .int y => if getI es y ≠ 0 then some (.tup [.int y, .int (getI es y)]) else none
  | _ => none
theorem fS_eq (es : Prs) : ∀ ys : List Int, (ys.map D.int).filterMap (fS es) = (keyed (getI es) ys).map pairD
  | [] => rfl
  | y :: ys => by
    have ih := fS_eq es ys
    unfold keyed at ih ⊢
    rw [List.map_cons, List.filterMap_cons, List.filterMap_cons]
    by_cases c : getI es y ≠ 0
    · have e : fS es (.int y) = some (.tup [.int y, .int (getI es y)]) := if_pos c
      rw [e, if_pos c, List.map_cons, ih]
      rfl
    · have e : fS es (.int y) = none := if_neg c
      rw [e, if_neg c, ih]
theorem p__law_sums (z : Ad) : ∀ ds h Q X, S__law_sums z ds h Q X → w__law_sums z (endsD Q X) (startD 4 ds) h := by
  rintro ds h Q X ⟨rows, rfl, hl, q⟩
  show w__law_sums z (endsD Q X) [some (.lst (rows.map pairD)), none, none, none] h
  have big := DL.big_size
  unfold w__law_sums
  rw [u_seq]
  simp only [u_asg, u_gN, u_ret, u_retN, u_skip, u_expr, u_ifs, u_c, u_op, u_neg, u_test, u_and, u_or, u_not, u_if, u_nil, u_cons, u_tup, u_lst, u_callP, u_call, u_b, u_chain, u_andV, u_addI, u_subI, u_mulI, u_divI, u_modI, u_powI, u_cmpI, u_eqI, u_eqS, u_eqB, u_abs, u_intI, u_intB, u_newT, u_newF, u_isN, u_notN, wVar, List.set_cons_zero, List.set_cons_succ, List.getElem?_cons_zero, List.getElem?_cons_succ, List.length_cons, List.length_nil, u_lc, u_for, u_r1, u_r2, u_r3, u_num, u_notV, u_yes, u_w0, u_w1, u_dnew]
  intro p hp
  rw [u_seq, u_for, u_seqi, u_var rfl]
  refine loop_go (fun i ρ h' => ∃ (es : Prs) (b c : Option D), ρ = [some (.lst (rows.map pairD)), some (.ref p), b, c] ∧ h' = up h p (.dK (toK es)) ∧ (es.map (·.1)).Nodup ∧ (∀ k, getI es k = amt (rows.take i) k) ∧ es.length ≤ i) ⟨[], _, _, rfl, rfl, List.nodup_nil, fun k => rfl, Nat.le_refl _⟩ (fun _ _ _ _ => trivial) ?_ ?_
  · rintro i x _ _ K hi ⟨es, b, c, rfl, rfl, nd, hg, le⟩ k
    obtain ⟨r, hr1, rfl, li⟩ := get_pairs hi
    refine ⟨_, rfl, rfl, _, _, rfl, _, _, rfl, rfl, ?_⟩
    simp only [u_dput, u_get2, u_asg, u_gN, u_ret, u_retN, u_skip, u_expr, u_ifs, u_c, u_op, u_neg, u_test, u_and, u_or, u_not, u_if, u_nil, u_cons, u_tup, u_lst, u_callP, u_call, u_b, u_chain, u_andV, u_addI, u_subI, u_mulI, u_divI, u_modI, u_powI, u_cmpI, u_eqI, u_eqS, u_eqB, u_abs, u_intI, u_intB, u_newT, u_newF, u_isN, u_notN, wVar, List.set_cons_zero, List.set_cons_succ, List.getElem?_cons_zero, List.getElem?_cons_succ, List.length_cons, List.length_nil, u_lc, u_for, u_r1, u_r2, u_r3, u_num, u_notV, u_yes, u_w0, u_w1]
    refine ⟨by simp [dkOf], toK es, _, by simp [dkOf], rfl, ?_⟩
    rw [val_getD, u_addI]
    refine ⟨p, toK es, _, rfl, up_same, rfl, by rw [toK_len]; omega, ?_⟩
    rw [up_up, putD_toK]
    refine k _ _ ⟨_, _, _, rfl, rfl, nodup_put nd, fun j => ?_, Nat.le_trans len_put (by omega)⟩
    rw [getI_put, amt_take hr1]
    by_cases e : j = r.1
    · subst e; rw [if_pos rfl, if_pos rfl, hg]
    · rw [if_neg e, if_neg (fun z => e z.symm), hg, Int.add_zero]
  · rintro _ _ ⟨es, b, c, rfl, rfl, nd, hg, le⟩
    rw [List.length_map] at hg le
    rw [List.take_length] at hg
    simp only [u_lc, u_seqi, u_asg, u_gN, u_ret, u_retN, u_skip, u_expr, u_ifs, u_c, u_op, u_neg, u_test, u_and, u_or, u_not, u_if, u_nil, u_cons, u_tup, u_lst, u_callP, u_call, u_b, u_chain, u_andV, u_addI, u_subI, u_mulI, u_divI, u_modI, u_powI, u_cmpI, u_eqI, u_eqS, u_eqB, u_abs, u_intI, u_intB, u_newT, u_newF, u_isN, u_notN, wVar, List.set_cons_zero, List.set_cons_succ, List.getElem?_cons_zero, List.getElem?_cons_succ, List.length_cons, List.length_nil, u_lc, u_for, u_r1, u_r2, u_r3, u_num, u_notV, u_yes, u_w0, u_w1]
    refine ⟨.ref p, toK es, es.map (·.1), rfl, by simp [dkOf], toK_keys es, fun ys hp1 hp2 => ?_⟩
    rw [u_newF]
    intro p2 hp2'
    have ndy : ys.Nodup := hp1.nodup_iff.mpr nd
    have ly : ys.length = es.length := by rw [hp1.length_eq, List.length_map]
    have p2p : p2 ≠ p := by rintro rfl; simp at hp2'
    have hp2h : h p2 = none := by rw [up_ne p2p] at hp2'; exact hp2'
    refine comp_pure (fS es) (fun _ => trivial) (by rw [List.length_map]; omega) ?_ ?_
    · intro x acc K hx la k
      obtain ⟨y, hy, rfl⟩ := List.mem_map.mp hx
      have my : y ∈ es.map (·.1) := hp1.mem_iff.mp hy
      rw [u_gN]
      simp only [u_asg, u_gN, u_ret, u_retN, u_skip, u_expr, u_ifs, u_c, u_op, u_neg, u_test, u_and, u_or, u_not, u_if, u_nil, u_cons, u_tup, u_lst, u_callP, u_call, u_b, u_chain, u_andV, u_addI, u_subI, u_mulI, u_divI, u_modI, u_powI, u_cmpI, u_eqI, u_eqS, u_eqB, u_abs, u_intI, u_intB, u_newT, u_newF, u_isN, u_notN, wVar, List.set_cons_zero, List.set_cons_succ, List.getElem?_cons_zero, List.getElem?_cons_succ, List.length_cons, List.length_nil, u_lc, u_for, u_r1, u_r2, u_r3, u_num, u_notV, u_yes, u_w0, u_w1, u_dget]
      have gp : (up (up h p (.dK (toK es))) p2 (.lst acc)) p = some (.dK (toK es)) := by rw [up_ne p2p.symm]; exact up_same
      refine ⟨toK es, _, _, dk_ref gp, rfl, val_some my, ?_⟩
      rw [u_eqI]
      by_cases z : getI es y = 0
      · rw [decide_eq_true z]
        simp only [Bool.not_true, Bool.false_eq_true, if_false]
        have : fS es (.int y) = none := if_neg (by simpa using z)
        rw [this] at k
        simpa using k
      · rw [decide_eq_false z]
        simp only [Bool.not_false, if_true]
        have : fS es (.int y) = some (.tup [.int y, .int (getI es y)]) := if_pos z
        rw [this] at k
        exact ⟨toK es, _, _, dk_ref gp, rfl, val_some my, sz_le (show 2 ≤ 100000 by decide), acc, up_same, la, by rw [up_up]; exact k⟩
    · rw [fS_eq]
      have led : Led (keyed (getI es) ys) (amt rows) := by
        have := keyed_led (A := getI es) hp2 ndy fun k hk => hp1.mem_iff.mpr (by
          cases c : hasI es k with
          | true => exact hasI_keys.mp c
          | false => exact absurd (getI_no c) hk)
        exact this.of_amt hg
      refine endF hp2' ⟨_, _, rfl, rfl, fin_sub (sub_up hp) (q _ led (by have := keyed_len (A := getI es) (ys := ys); omega))⟩
theorem div30 {c : Int} (c1 : 1 ≤ c) (c2 : c ≤ 10 ^ 30) : DivOk c := by
  have h : c.natAbs.log2 < 100 := (Nat.log2_lt (by omega)).mpr (by omega)
  exact ⟨by omega, .inr (by omega)⟩
theorem len_take {rows : Prs} {i : Nat} {r : Int × Int} {c : Int} (h : rows[i]? = some r) : lenAt (rows.take (i + 1)) c = lenAt (rows.take i) c + r.2 * (r.1 % c) := by
  unfold lenAt
  rw [List.take_add_one, h, Option.toList_some, List.map_append, List.sum_append, List.map_cons, List.map_nil, List.sum_cons, List.sum_nil]
  omega
theorem sm_mod {a c : Int} (a0 : 0 ≤ a) (c1 : 1 ≤ c) : a / c * c = a - a % c := by have := Int.mul_ediv_add_emod a c; rw [Int.mul_comm] at this; omega
theorem p__law_due (z : Ad) : ∀ ds h Q X, S__law_due z ds h Q X → w__law_due z (endsD Q X) (startD 5 ds) h := by
  rintro ds h Q X ⟨rows, c, rfl, hr, hl, hc, hc2, q⟩
  show w__law_due z (endsD Q X) [some (.lst (rows.map pairD)), some (.int c), none, none, none] h
  have big := DL.big_size
  unfold w__law_due
  rw [u_seq]
  simp only [u_asg, u_gN, u_ret, u_retN, u_skip, u_expr, u_ifs, u_c, u_op, u_neg, u_test, u_and, u_or, u_not, u_if, u_nil, u_cons, u_tup, u_lst, u_callP, u_call, u_b, u_chain, u_andV, u_addI, u_subI, u_mulI, u_divI, u_modI, u_powI, u_cmpI, u_eqI, u_eqS, u_eqB, u_abs, u_intI, u_intB, u_newT, u_newF, u_isN, u_notN, wVar, List.set_cons_zero, List.set_cons_succ, List.getElem?_cons_zero, List.getElem?_cons_succ, List.length_cons, List.length_nil, u_lc, u_for, u_r1, u_r2, u_r3, u_num, u_notV, u_yes, u_w0, u_w1]
  rw [u_seq, u_for, u_seqi, u_var rfl]
  refine loop_go (fun i ρ h' => ∃ (b d : Option D), ρ = [some (.lst (rows.map pairD)), some (.int c), some (.int (lenAt (rows.take i) c)), b, d] ∧ h' = h) ⟨_, _, rfl, rfl⟩ (fun _ _ _ _ => trivial) ?_ ?_
  · rintro i x _ _ K hi ⟨b, d, rfl, rfl⟩ k
    obtain ⟨r, hr1, rfl, li⟩ := get_pairs hi
    have rr := hr r (List.mem_of_getElem? hr1)
    refine ⟨_, rfl, rfl, _, _, rfl, _, _, rfl, rfl, ?_⟩
    simp only [u_asg, u_gN, u_ret, u_retN, u_skip, u_expr, u_ifs, u_c, u_op, u_neg, u_test, u_and, u_or, u_not, u_if, u_nil, u_cons, u_tup, u_lst, u_callP, u_call, u_b, u_chain, u_andV, u_addI, u_subI, u_mulI, u_divI, u_modI, u_powI, u_cmpI, u_eqI, u_eqS, u_eqB, u_abs, u_intI, u_intB, u_newT, u_newF, u_isN, u_notN, wVar, List.set_cons_zero, List.set_cons_succ, List.getElem?_cons_zero, List.getElem?_cons_succ, List.length_cons, List.length_nil, u_lc, u_for, u_r1, u_r2, u_r3, u_num, u_notV, u_yes, u_w0, u_w1, u_dput, u_get2, u_dget, u_prop, u_fld, u_setF, u_make, u_makeS, u_met, u_calO, u_orT, u_tupIt, u_dc, u_maxDd, u_dnew, u_tupi, ix_p0, ix_p1, wSl, woNone, woSome]
    have h1 := sm_mod rr.1 hc
    have h2 := Int.emod_nonneg r.1 (show c ≠ 0 by omega)
    have h3 : r.1 % c ≤ r.1 := by have := Int.mul_nonneg (Int.ediv_nonneg rr.1 (show (0 : Int) ≤ c by omega)) (show (0 : Int) ≤ c by omega); omega
    have h4 : r.1 / c ≤ r.1 := Int.ediv_le_self _ rr.1
    have h5 := Int.ediv_nonneg rr.1 (show (0 : Int) ≤ c by omega)
    refine ⟨div30 hc hc2, .inl ⟨by omega, by omega⟩, .inr (.inl ⟨by omega, by omega⟩), k _ _ ⟨some (.int r.1), some (.int r.2), ?_, rfl⟩⟩
    rw [len_take hr1, show r.1 - r.1 / c * c = r.1 % c by omega]
  · rintro _ _ ⟨b, d, rfl, rfl⟩
    simp only [u_asg, u_gN, u_ret, u_retN, u_skip, u_expr, u_ifs, u_c, u_op, u_neg, u_test, u_and, u_or, u_not, u_if, u_nil, u_cons, u_tup, u_lst, u_callP, u_call, u_b, u_chain, u_andV, u_addI, u_subI, u_mulI, u_divI, u_modI, u_powI, u_cmpI, u_eqI, u_eqS, u_eqB, u_abs, u_intI, u_intB, u_newT, u_newF, u_isN, u_notN, wVar, List.set_cons_zero, List.set_cons_succ, List.getElem?_cons_zero, List.getElem?_cons_succ, List.length_cons, List.length_nil, u_lc, u_for, u_r1, u_r2, u_r3, u_num, u_notV, u_yes, u_w0, u_w1, u_dput, u_get2, u_dget, u_prop, u_fld, u_setF, u_make, u_makeS, u_met, u_calO, u_orT, u_tupIt, u_dc, u_maxDd, u_dnew, u_tupi, ix_p0, ix_p1, wSl, woNone, woSome]
    rw [List.length_map, List.take_length]
    exact fin_of q
end K26
/-! a comprehension over a typed list -/
namespace DL
open PySem PySem.Spec L2 C8
theorem comp_map {α : Type} {st : AH → Prop} {g : WG} {tt : WT} {te : WE} {vs : List Nat} {ρ : EnvD} {p : Addr} {h : AH} {Q : AH → Prop} (e f : α → D) (xs : List α) (hst : ∀ acc, st (up h p (.lst acc))) (hl : xs.length ≤ sizeLine)
    (hs : ∀ x acc (K : AH → Prop), x ∈ xs → acc.length < sizeLine → K (up h p (.lst (acc ++ [f x]))) → g (e x) (wipeD ρ vs) (up h p (.lst acc)) (fun ρ2 h2 => tt ρ2 h2 (fun b h3 => if b = true then te ρ2 h3 (fun y h4 => ∃ acc, h4 p = some (.lst acc) ∧ acc.length < sizeLine ∧ K (up h4 p (.lst (acc ++ [y])))) (fun _ _ => False) else K h3) (fun _ _ => False)) (fun _ _ => False))
    (hd : Q (up h p (.lst (xs.map f)))) : compD st g tt te vs ρ p (xs.map e) (up h p (.lst [])) Q := by
  refine comp_go (fun i h' => h' = up h p (.lst ((xs.take i).map f))) (by rw [List.take_zero]; rfl) (fun i h' e => e ▸ hst _) ?_ ?_
  · rintro i x h' K hi rfl k
    rw [List.getElem?_map] at hi
    obtain ⟨a, ha, rfl⟩ := Option.map_eq_some_iff.mp hi
    have li := (List.getElem?_eq_some_iff.mp ha).1
    refine hs a _ K (List.mem_of_getElem? ha) (by rw [List.length_map, List.length_take]; omega) (k _ ?_)
    rw [List.take_succ, ha, Option.toList_some, List.map_append]; rfl
  · rintro h' rfl
    rw [List.length_map, List.take_length]; exact hd
end DL
namespace K26
open PySem PySem.Spec L2 C8 DL PK PL PQ PN PB F4 PR
/-! ### sums are small -/
theorem sum_sm {K : Nat} : ∀ {xs : List Int}, (∀ x ∈ xs, x.natAbs < K) → xs.sum.natAbs ≤ xs.length * K
  | [], _ => by simp
  | x :: xs, h => by
    have h1 := h x (List.mem_cons_self ..)
    have h2 := sum_sm (xs := xs) fun y hy => h y (List.mem_cons_of_mem _ hy)
    rw [List.sum_cons, List.length_cons, Nat.add_mul]
    omega
theorem frm_sm {es : Prs} {s : Int} (hl : es.length ≤ 6) (h : ∀ e ∈ es, e.2.natAbs < 2 ^ 200) : (frmI es s).natAbs < 2 ^ 210 := by
  have h1 := sum_sm (K := 2 ^ 200) (xs := (es.filter fun e => decide (s ≤ e.1)).map (·.2)) fun x hx => by
    obtain ⟨e, he, rfl⟩ := List.mem_map.mp hx
    exact h e (List.mem_filter.mp he).1
  have h2 : ((es.filter fun e => decide (s ≤ e.1)).map (·.2)).length ≤ 6 := by
    rw [List.length_map]
    exact Nat.le_trans (List.length_filter_le ..) hl
  have h3 := Nat.mul_le_mul_right (2 ^ 200) h2
  unfold frmI
  generalize ((es.filter fun e => decide (s ≤ e.1)).map (·.2)).sum = S at *
  omega
theorem rp_ints {a b : Int} (ha : a.natAbs < 2 ^ 210) (hb : b.natAbs < 2 ^ 210) : Rp (.lst [.int a, .int b]) 1 1000 := (rp_lst (k := 0) (n := 211) (l := 2) (fun x hx => by
  rcases List.mem_cons.mp hx with rfl | hx
  · exact rp_int (by decide) (by decide) ha
  · rw [List.mem_singleton] at hx; subst hx
    exact rp_int (by decide) (by decide) hb) (Nat.le_refl _)).up (by decide) (by decide)
theorem p__law_from_right (z : Ad) : ∀ ds h Q X, S__law_from_right z ds h Q X → w__law_from_right z (endsD Q X) (startD 8 ds) h := by
  rintro ds h Q X ⟨n, p, es, rfl, I, hn, hr, hl, hs, q⟩
  show w__law_from_right z (endsD Q X) [some (.ref p), some (ledD z.Ledger es), some (.tup (es.map pairD)), none, none, none, none, none] h
  replace I := Inv0.start I
  have big := DL.big_size
  unfold w__law_from_right
  rw [u_seq, u_asg, u_op, u_lst]
  simp only [u_callP, u_cons, u_nil, u_op, u_c, u_neg]
  refine ⟨pw6, ?_⟩
  try dsimp only
  refine ⟨pw6, ?_⟩
  try dsimp only
  rw [show (10 : Int) ^ Int.toNat 6 = 1000000 from by decide, u_addI]
  try dsimp only
  rw [u_var rfl]
  refine ⟨rfl, draw_go I (by omega) (div_ok (by decide) (by decide)) fun v1 o a1 b1 I _ => ?_⟩
  obtain ⟨o', s1, s2⟩ := I.sub
  replace q := q o' s1
  generalize up h p o = g1 at I s2 ⊢
  refine ⟨sz_le (show 7 ≤ 100000 by decide), ?_⟩
  rw [u_newF, u_lc, u_tupi, u_var rfl]
  try dsimp only
  intro t ht
  refine comp_map pairD (fun e => .int e.1) es (fun acc => trivial) (sz_le (by omega)) (fun x acc K hx la k => ?_) ?_
  · refine ⟨_, rfl, rfl, _, _, rfl, _, _, rfl, rfl, ?_⟩
    try simp only [wYes, u_asg, u_gN, u_ret, u_retN, u_skip, u_expr, u_ifs, u_c, u_op, u_neg, u_test, u_and, u_or, u_not, u_if, u_nil, u_cons, u_tup, u_lst, u_callP, u_call, u_b, u_chain, u_andV, u_addI, u_subI, u_mulI, u_divI, u_modI, u_powI, u_cmpI, u_eqI, u_eqS, u_eqB, u_abs, u_intI, u_intB, u_newT, u_newF, u_isN, u_notN, wVar, List.set_cons_zero, List.set_cons_succ, List.getElem?_cons_zero, List.getElem?_cons_succ, List.length_cons, List.length_nil, u_lc, u_for, u_r1, u_r2, u_r3, u_num, u_notV, u_yes, u_w0, u_w1, u_dput, u_get2, u_dget, u_prop, u_fld, u_setF, u_make, u_makeS, u_met, u_calO, u_orT, u_tupIt, u_dc, u_maxDd, u_dnew, u_tupi, ix_p0, ix_p1, wSl, woNone, woSome]
    try rw [if_pos trivial]
    exact ⟨acc, up_same, la, by rw [up_up]; exact k⟩
  refine endF ht ?_
  refine addL_go (by simp; omega) ?_
  have eL : ([D.int 0, D.int (-5), D.int 1000000, D.int (1000000 + 1), D.int 2520, D.int 2521, D.int v1] ++ es.map fun e => D.int e.1) = ([0, -5, 1000000, 1000001, 2520, 2521, v1] ++ es.map (·.1)).map D.int := by
    rw [List.map_append, List.map_map]; rfl
  rw [eL]
  generalize [0, -5, 1000000, 1000001, 2520, 2521, v1] ++ es.map (·.1) = L
  rw [u_gN]
  dsimp only [List.set_cons_zero, List.set_cons_succ]
  rw [u_seq, u_for, u_seqi, u_var rfl]
  refine loop_go (fun i ρ h' => ∃ (b c : Option D), ρ = [some (.ref p), some (ledD z.Ledger es), some (.tup (es.map pairD)), some (.lst (L.map D.int)), b, c, none, none] ∧ h' = g1) ⟨_, _, rfl, rfl⟩ (fun _ _ _ _ => trivial) ?_ ?_
  · rintro i x _ _ K hi ⟨b, c, rfl, rfl⟩ k
    rw [List.getElem?_map] at hi
    obtain ⟨s, _, rfl⟩ := Option.map_eq_some_iff.mp hi
    rw [u_gN]
    dsimp only [List.set_cons_zero, List.set_cons_succ]
    rw [u_seq, u_asg, u_b]
    simp only [u_cons, u_nil]
    rw [u_lc, u_tupi, u_var rfl]
    try dsimp only
    intro t ht
    refine comp_pure (fFr s) (fun _ => trivial) (by rw [List.length_map]; omega) ?_ ?_
    · intro y acc K hy la kk
      obtain ⟨e, he, rfl⟩ := List.mem_map.mp hy
      refine ⟨_, rfl, rfl, _, _, rfl, _, _, rfl, rfl, ?_⟩
      try simp only [u_asg, u_gN, u_ret, u_retN, u_skip, u_expr, u_ifs, u_c, u_op, u_neg, u_test, u_and, u_or, u_not, u_if, u_nil, u_cons, u_tup, u_lst, u_callP, u_call, u_b, u_chain, u_andV, u_addI, u_subI, u_mulI, u_divI, u_modI, u_powI, u_cmpI, u_eqI, u_eqS, u_eqB, u_abs, u_intI, u_intB, u_newT, u_newF, u_isN, u_notN, wVar, List.set_cons_zero, List.set_cons_succ, List.getElem?_cons_zero, List.getElem?_cons_succ, List.length_cons, List.length_nil, u_lc, u_for, u_r1, u_r2, u_r3, u_num, u_notV, u_yes, u_w0, u_w1, u_dput, u_get2, u_dget, u_prop, u_fld, u_setF, u_make, u_makeS, u_met, u_calO, u_orT, u_tupIt, u_dc, u_maxDd, u_dnew, u_tupi, ix_p0, ix_p1, wSl, woNone, woSome]
      have ef : fFr s (pairD e) = if s ≤ e.1 then some (.int e.2) else none := rfl
      rw [ef] at kk
      by_cases c : s ≤ e.1
      · rw [if_pos c] at kk
        rw [if_pos (decide_eq_true c)]
        exact ⟨acc, up_same, la, by rw [up_up]; exact kk⟩
      · rw [if_neg c, Option.toList_none, List.append_nil] at kk
        rw [if_neg (by rw [decide_eq_false c]; decide)]
        exact kk
    rw [fFr_eq]
    refine endF ht ⟨_, _, rfl, rfl, ?_⟩
    try dsimp only
    rw [u_gN]
    dsimp only [List.set_cons_zero, List.set_cons_succ]
    rw [show (List.map (fun x => x.snd) (List.filter (fun e => decide (s ≤ e.fst)) es)).sum = frmI es s from rfl]
    have fs := frm_sm (s := s) hl hs
    simp only [u_metK, u_asg, u_gN, u_ret, u_retN, u_skip, u_expr, u_ifs, u_c, u_op, u_neg, u_test, u_and, u_or, u_not, u_if, u_nil, u_cons, u_tup, u_lst, u_callP, u_call, u_b, u_chain, u_andV, u_addI, u_subI, u_mulI, u_divI, u_modI, u_powI, u_cmpI, u_eqI, u_eqS, u_eqB, u_abs, u_intI, u_intB, u_newT, u_newF, u_isN, u_notN, wVar, List.set_cons_zero, List.set_cons_succ, List.getElem?_cons_zero, List.getElem?_cons_succ, List.length_cons, List.length_nil, u_lc, u_for, u_r1, u_r2, u_r3, u_num, u_notV, u_yes, u_w0, u_w1, u_dput, u_get2, u_dget, u_prop, u_fld, u_setF, u_make, u_makeS, u_met, u_calO, u_orT, u_tupIt, u_dc, u_maxDd, u_dnew, u_tupi, ix_p0, ix_p1, wSl, woNone, woSome]
    refine ⟨_, rfl, rfl, es, s, rfl, by omega, ?_⟩
    try dsimp only
    refine ⟨_, rfl, rfl, trivial, es, s, rfl, by omega, ?_⟩
    try dsimp only
    refine ⟨sz_le (show 2 ≤ 100000 by decide), ?_⟩
    refine rp_go (rp_ints fs fs) (by decide) (by decide) rfl ?_
    generalize hsh : (pd (.lst [.int (frmI es s), .int (frmI es s)])).shown = sh
    refine ⟨sz_le (show 2 ≤ 100000 by decide), ?_⟩
    refine rp_go (rp_ints fs fs) (by decide) (by decide) rfl ?_
    rw [hsh]
    refine text_same ?_
    try dsimp only
    rw [if_neg (by decide)]
    exact k _ _ ⟨_, _, rfl, rfl⟩
  · rintro _ _ ⟨b, c, rfl, rfl⟩
    simp only [u_asg, u_gN, u_ret, u_retN, u_skip, u_expr, u_ifs, u_c, u_op, u_neg, u_test, u_and, u_or, u_not, u_if, u_nil, u_cons, u_tup, u_lst, u_callP, u_call, u_b, u_chain, u_andV, u_addI, u_subI, u_mulI, u_divI, u_modI, u_powI, u_cmpI, u_eqI, u_eqS, u_eqB, u_abs, u_intI, u_intB, u_newT, u_newF, u_isN, u_notN, wVar, List.set_cons_zero, List.set_cons_succ, List.getElem?_cons_zero, List.getElem?_cons_succ, List.length_cons, List.length_nil, u_lc, u_for, u_r1, u_r2, u_r3, u_num, u_notV, u_yes, u_w0, u_w1, u_dput, u_get2, u_dget, u_prop, u_fld, u_setF, u_make, u_makeS, u_met, u_calO, u_orT, u_tupIt, u_dc, u_maxDd, u_dnew, u_tupi, ix_p0, ix_p1, wSl, woNone, woSome]
    exact fin_sub s2 q
end K26
namespace K26
open PySem PySem.Spec L2 C8 DL PK PL PQ PN PB F4 PR
theorem fl_et : Fl (.tup []) 1 := fl_tup (k := 0) fun x hx => by cases hx
theorem nil_tup {f : Bool → Bool} {xs : List D} {h : AH} {Q : KD} {k : Nat} (r : Fl (.tup xs) k) (hk : k ≤ 64) (q : Q (.bl (f xs.isEmpty)) h) : dEq f (.tup xs) (.tup []) h Q := by
  refine ⟨r.da, rfl, r.sh hk, fl_et.sh (by decide), ?_⟩
  show Q (.bl (f (PyData.eqv (pd (.tup xs)) (pd (.tup []))))) h
  rw [pd, pd, PyData.eqv]
  cases xs with
  | nil => rw [pds, PyData.eqvAll]; exact q
  | cons x xs => rw [pds, pds, PyData.eqvAll]; exact q
theorem rp_pr {e : Int × Int} (h1 : e.1.natAbs < 2 ^ 210) (h2 : e.2.natAbs < 2 ^ 210) : Rp (pairD e) 1 500 := (rp_tup (k := 0) (n := 211) (l := 2) (fun x hx => by
  have : x = .int e.1 ∨ x = .int e.2 := by simpa using hx
  rcases this with rfl | rfl
  · exact rp_int (by decide) (by decide) h1
  · exact rp_int (by decide) (by decide) h2) (Nat.le_refl _)).up (by decide) (by decide)
theorem rp_prs {es : Prs} {l : Nat} (hl : es.length ≤ l) (h : ∀ e ∈ es, e.1.natAbs < 2 ^ 210 ∧ e.2.natAbs < 2 ^ 210) : Rp (.tup (es.map pairD)) 2 (3 + l * 502) := rp_tup (k := 1) (n := 500) (l := l) (fun x hx => by
  obtain ⟨e, he, rfl⟩ := List.mem_map.mp hx
  exact rp_pr (h e he).1 (h e he).2) (by rw [List.length_map]; exact hl)
/-- what is heard of rows moved -/
def mvD (es : Prs) (b : Int) : D := if es = [] ∨ topI es + b ≤ 1000000 then .lst [.tup ((movP b es).map pairD)] else .tup [.str "long", .int (topI es + b)]
theorem mv_fit {es : Prs} {b : Int} (c : es = [] ∨ topI es + b ≤ 1000000) : mvD es b = .lst [.tup ((movP b es).map pairD)] := if_pos c
theorem mv_long {es : Prs} {b : Int} (n : es ≠ []) (c : 1000000 < topI es + b) : mvD es b = .tup [.str "long", .int (topI es + b)] := if_neg fun h => by
  rcases h with h | h
  · exact n h
  · omega
theorem go_mov (z : Ad) {es : Prs} {b : Int} {g : AH} {Q : KD} (hs : Std es) (hr : InR es) (hl : es.length ≤ 6) (b0 : 0 ≤ b) (q : Q (mvD es b) g) :
    S_Ledger_moved z [ledD z.Ledger es, .int b] g (fun x h1 => isI z.Ledger x h1 ∧ PL.S_Ledger_rows z [x] h1 (fun d h' => Q (.lst [d]) h') (fun _ _ => False)) (fun x h' => ∃ C fs w v, x = .own C fs ∧ Wrd z C fs w v ∧ Q (.tup [.str w, v]) h') :=
  ⟨es, b, rfl, b0, hr, hs, by omega, fun c => ⟨ledD_isI, _, rfl, by show Q (.lst [.tup ((movP b es).map pairD)]) g; rw [← mv_fit c]; exact q⟩, fun n c => ⟨_, _, _, _, rfl, .long _, by rw [← mv_long n c]; exact q⟩⟩
theorem cur_mv {es : Prs} {b : Int} {h : AH} : cur h (mvD es b) = mvD es b := by
  unfold mvD
  split <;> rfl
theorem hear1 (z : Ad) {es : Prs} {b : Int} {ρ : EnvD} {g : AH} {Q : KD} {X : KX} (hs : Std es) (hr : InR es) (hl : es.length ≤ 6) (b0 : 0 ≤ b) (tb : g z.t1 = some (.tab (("_law_moved_right" : Str) ++ ".<locals>." ++ "<lambda>")))
    (e1 : ρ[1]? = some (some (ledD z.Ledger es))) (e4 : ρ[4]? = some (some (.int b))) (q : Q (mvD es b) g) :
    wHeard (S__law_heard z) z.t1 (("_law_moved_right" : Str) ++ ".<locals>." ++ "<lambda>") (wProp z.Ledger (PL.S_Ledger_rows z) (wMet z.Ledger "moved" (S_Ledger_moved z) (wVar 1) (wCons (wVar 4) wNil))) ρ g Q X := by
  refine ⟨tb, ?_⟩
  show wProp z.Ledger _ _ _ _ _ _
  rw [u_prop, u_met, u_var e1]
  refine ⟨_, rfl, rfl, ?_⟩
  simp only [u_cons, u_nil]
  rw [u_var e4]
  exact go_mov (Q := Q) z hs hr hl b0 q
theorem hear2 (z : Ad) {es : Prs} {b : Int} {ρ : EnvD} {g : AH} {Q : KD} {X : KX} (hs : Std es) (hr : InR es) (hl : es.length ≤ 6) (b0 : 0 ≤ b) (tb : g z.t1 = some (.tab (("_law_moved_right" : Str) ++ ".<locals>." ++ "<lambda>")))
    (e1 : ρ[1]? = some (some (ledD z.Ledger es))) (e4 : ρ[4]? = some (some (.int b))) (q : Q (mvD es b) g) :
    wHeard (S__law_heard z) z.t1 (("_law_moved_right" : Str) ++ ".<locals>." ++ "<lambda>") (wProp z.Ledger (PL.S_Ledger_rows z) (wMetK z.Ledger "moved" (S_Ledger_moved z) 1 (pickD [0, 1]) (wVar 1) (wCons (wVar 4) wNil))) ρ g Q X := by
  refine ⟨tb, ?_⟩
  show wProp z.Ledger _ _ _ _ _ _
  rw [u_prop, u_metK, u_var e1]
  refine ⟨_, rfl, rfl, ?_⟩
  simp only [u_cons, u_nil]
  rw [u_var e4]
  exact ⟨rfl, go_mov (Q := Q) z hs hr hl b0 q⟩
theorem rp_mv {es : Prs} {b : Int} (hr : InR es) (hl : es.length ≤ 6) (hs : ∀ e ∈ es, e.2.natAbs < 2 ^ 200) (b0 : 0 ≤ b) (b1 : b ≤ 1000000) : Rp (mvD es b) 3 10000 := by
  have tp : 0 ≤ topI es ∧ topI es ≤ 1000000 := by
    unfold topI
    cases e : es.getLast? with
    | none => exact ⟨by decide, by decide⟩
    | some x => exact hr x (List.mem_of_getLast? e)
  unfold mvD
  split
  · refine (rp_lst (k := 2) (n := 3 + 6 * 502) (l := 1) (fun x hx => ?_) (Nat.le_refl _)).up (by decide) (by decide)
    rw [List.mem_singleton] at hx
    subst hx
    refine rp_prs (by unfold movP; rw [List.length_map]; exact hl) fun e he => ?_
    obtain ⟨y, hy, rfl⟩ := List.mem_map.mp he
    have h1 := hr y hy
    have h2 := hs y hy
    exact ⟨by dsimp only; omega, by dsimp only; omega⟩
  · refine (rp_tup (k := 0) (n := 211) (l := 2) (fun x hx => ?_) (Nat.le_refl _)).up (by decide) (by decide)
    rcases List.mem_cons.mp hx with rfl | hx
    · exact rp_st (by rw [PyData.shown]; decide +kernel)
    · rw [List.mem_singleton] at hx
      subst hx
      exact rp_int (by decide) (by decide) (by omega)
theorem at_top {es : Prs} (n : es ≠ []) : ∃ e, atI (es.map pairD) (-1) = some (pairD e) ∧ e.1 = topI es := by
  obtain ⟨fs, e, rfl⟩ : ∃ fs e, es = fs ++ [e] := ⟨es.dropLast, es.getLast n, (List.dropLast_concat_getLast n).symm⟩
  exact ⟨e, by rw [List.map_append]; exact at_neg1, top_last.symm⟩
theorem last_if {es : Prs} {ρ : EnvD} {h : AH} {Q : KD} {X : KX} (e : ρ[2]? = some (some (.tup (es.map pairD)))) (q : Q (.int (topI es)) h) :
    wIf (wTest (wOp (dEq fun b => !b) (wVar 2) (wTup wNil))) (wOp dIx (wOp dIx (wVar 2) (wNeg (wC (.int 1)))) (wC (.int 0))) (wC (.int 0)) ρ h Q X := by
  rw [u_if, u_test, u_op, u_var e, u_tup]
  simp only [u_nil]
  refine ⟨Nat.zero_le _, nil_tup (fl_tup (fl_pairs es)) (by decide) ?_⟩
  try dsimp only
  cases es with
  | nil =>
    rw [if_neg (by decide), u_c]
    exact q
  | cons x xs =>
    rw [if_pos (show (!(List.map pairD (x :: xs)).isEmpty) = true from rfl)]
    obtain ⟨e1, h1, h2⟩ := at_top (es := x :: xs) (by simp)
    rw [u_op, u_op, u_var e]
    simp only [u_neg, u_c]
    rw [u_ixTd h1, pr0, h2]
    exact q
theorem p__law_moved_right (z : Ad) : ∀ ds h Q X, S__law_moved_right z ds h Q X → w__law_moved_right z (endsD Q X) (startD 9 ds) h := by
  rintro ds h Q X ⟨n, p, es, rfl, tb, I, hn, hstd, hr, hl, hs, q⟩
  show w__law_moved_right z (endsD Q X) [some (.ref p), some (ledD z.Ledger es), some (.tup (es.map pairD)), none, none, none, none, none, none] h
  have pt : z.t1 ≠ p := by rintro e; obtain ⟨o, e1, cs, _, _, e2, _⟩ := I; rw [← e, tb.2, e2] at e1; cases e1
  replace I := Inv0.start I
  have big := DL.big_size
  unfold w__law_moved_right
  rw [u_seq, u_for, u_r1]
  simp only [u_cons, u_nil, u_c]
  refine ⟨by decide, by decide, ?_⟩
  rw [show Int.toNat 3 = 3 from rfl]
  refine loop_go (fun i ρ g => ∃ (a b c d : Option D), ρ = [some (.ref p), some (ledD z.Ledger es), some (.tup (es.map pairD)), a, b, c, d, none, none] ∧ Inv0 h p (n + 6 * (i : Nat)) g) ⟨_, _, _, _, rfl, by simpa using I⟩ (fun _ _ _ _ => trivial) ?_ ?_
  · rintro i x ρ g1 K hi ⟨a, b, c, d, rfl, I⟩ k
    obtain ⟨rfl, li⟩ := intsD_get hi
    rw [u_gN]
    dsimp only [List.set_cons_zero, List.set_cons_succ]
    rw [u_seq, u_asg, u_op, u_lst]
    simp only [u_callP, u_cons, u_nil, u_op, u_c]
    rw [u_var rfl]
    refine ⟨rfl, draw_go I (by omega) (div_ok (by decide) (by decide)) fun v1 o a1 b1 I _ => ?_⟩
    generalize up g1 p o = g1 at I ⊢
    refine ⟨pw6, ?_⟩
    rw [show (10 : Int) ^ Int.toNat 6 = 1000000 from by decide]
    refine last_if rfl ?_
    rw [u_subI]
    refine ⟨pw6, ?_⟩
    rw [show (10 : Int) ^ Int.toNat 6 = 1000000 from by decide]
    refine ⟨sz_le (show 4 ≤ 100000 by decide), ?_⟩
    rw [u_newF, u_var rfl]
    refine ⟨rfl, draw_go I (by omega) (div_ok (by decide) (by decide)) fun v2 o a2 b2 I _ => ?_⟩
    generalize up g1 p o = g1 at I ⊢
    refine at_some (es := [v1, 1000000 - topI es, 1000000, 0]) a2 (by simpa using b2) fun u hu => ?_
    rw [u_gN]
    dsimp only [List.set_cons_zero, List.set_cons_succ]
    rw [u_seq, u_asg, u_b]
    simp only [u_callP, u_cons, u_nil, u_op, u_c, u_b]
    refine ⟨pw6, ?_⟩
    rw [show (10 : Int) ^ Int.toNat 6 = 1000000 from by decide]
    try dsimp only
    rw [u_var rfl]
    try dsimp only
    rw [u_var rfl]
    refine ⟨rfl, draw_go I (by omega) (div_ok (by decide) (by decide)) fun v3 o a3 b3 I _ => ?_⟩
    generalize up g1 p o = g1 at I ⊢
    rw [u_addI]
    try dsimp only
    rw [u_subI]
    unfold dMax2 dMin2
    try dsimp only
    generalize hb : (if (if u + v3 - 1 > 0 then u + v3 - 1 else 0) < 1000000 then (if u + v3 - 1 > 0 then u + v3 - 1 else 0) else 1000000) = b
    have b01 : 0 ≤ b ∧ b ≤ 1000000 := by
      rw [← hb]
      repeat' split
      all_goals omega
    clear hb
    have tb1 : g1 z.t1 = some (.tab (("_law_moved_right" : Str) ++ ".<locals>." ++ "<lambda>")) := I.old _ _ tb.2 pt
    have rpm := rp_mv hr hl hs b01.1 b01.2
    rw [u_gN]
    dsimp only [List.set_cons_zero, List.set_cons_succ]
    rw [u_seq, u_asg]
    refine hear1 z hstd hr hl b01.1 tb1 rfl rfl ?_
    rw [u_gN]
    dsimp only [List.set_cons_zero, List.set_cons_succ]
    rw [u_seq, u_asg, u_lst]
    simp only [u_cons, u_nil, u_b]
    rw [u_lc, u_tupi, u_var rfl]
    try dsimp only
    intro t ht
    refine comp_map pairD (fun e => .tup [.int (e.1 + b), .int e.2]) es (fun acc => trivial) (sz_le (by omega)) (fun x acc K hx la k => ?_) ?_
    · refine ⟨_, rfl, rfl, _, _, rfl, _, _, rfl, rfl, ?_⟩
      try simp only [wYes, u_asg, u_gN, u_ret, u_retN, u_skip, u_expr, u_ifs, u_c, u_op, u_neg, u_test, u_and, u_or, u_not, u_if, u_nil, u_cons, u_tup, u_lst, u_callP, u_call, u_b, u_chain, u_andV, u_addI, u_subI, u_mulI, u_divI, u_modI, u_powI, u_cmpI, u_eqI, u_eqS, u_eqB, u_abs, u_intI, u_intB, u_newT, u_newF, u_isN, u_notN, wVar, List.set_cons_zero, List.set_cons_succ, List.getElem?_cons_zero, List.getElem?_cons_succ, List.length_cons, List.length_nil, u_lc, u_for, u_r1, u_r2, u_r3, u_num, u_notV, u_yes, u_w0, u_w1, u_dput, u_get2, u_dget, u_prop, u_fld, u_setF, u_make, u_makeS, u_met, u_calO, u_orT, u_tupIt, u_dc, u_maxDd, u_dnew, u_tupi, ix_p0, ix_p1, wSl, woNone, woSome]
      try rw [if_pos trivial]
      exact ⟨sz_le (show 2 ≤ 100000 by decide), acc, up_same, la, by rw [up_up]; exact k⟩
    have em : (es.map fun e => D.tup [.int (e.1 + b), .int e.2]) = (movP b es).map pairD := by
      unfold movP; rw [List.map_map]; rfl
    rw [em]
    refine endF ht ⟨_, _, rfl, rfl, sz_le (show 1 ≤ 100000 by decide), ?_⟩
    rw [u_newF, u_gN]
    dsimp only [List.set_cons_zero, List.set_cons_succ]
    refine seq_go (fun ρ h' => ρ = [some (.ref p), some (ledD z.Ledger es), some (.tup (es.map pairD)), some (.int (0 + (i : Nat))), some (.int b), some (mvD es b), some (mvD es b), none, none] ∧ h' = g1) (fun K k => ?_) ?_
    · have k := k _ _ ⟨rfl, rfl⟩
      simp only [u_asg, u_gN, u_ret, u_retN, u_skip, u_expr, u_ifs, u_c, u_op, u_neg, u_test, u_and, u_or, u_not, u_if, u_nil, u_cons, u_tup, u_lst, u_callP, u_call, u_b, u_chain, u_andV, u_addI, u_subI, u_mulI, u_divI, u_modI, u_powI, u_cmpI, u_eqI, u_eqS, u_eqB, u_abs, u_intI, u_intB, u_newT, u_newF, u_isN, u_notN, wVar, List.set_cons_zero, List.set_cons_succ, List.getElem?_cons_zero, List.getElem?_cons_succ, List.length_cons, List.length_nil, u_lc, u_for, u_r1, u_r2, u_r3, u_num, u_notV, u_yes, u_w0, u_w1, u_dput, u_get2, u_dget, u_prop, u_fld, u_setF, u_make, u_makeS, u_met, u_calO, u_orT, u_tupIt, u_dc, u_maxDd, u_dnew, u_tupi, ix_p0, ix_p1, wSl, woNone, woSome]
      refine ⟨Nat.zero_le _, nil_tup (fl_tup (fl_pairs es)) (by decide) ?_⟩
      try dsimp only
      by_cases ne : es = []
      · rw [if_neg (by rw [ne]; decide), if_neg (by decide)]
        rw [mv_fit (.inl ne)] at k ⊢
        exact k
      · rw [if_pos (show (!(List.map pairD es).isEmpty) = true by cases es with | nil => exact absurd rfl ne | cons x xs => rfl)]
        obtain ⟨e1, h1, h2⟩ := at_top ne
        rw [u_ixTd h1, pr0, h2, u_addI]
        refine ⟨pw6, ?_⟩
        rw [show (10 : Int) ^ Int.toNat 6 = 1000000 from by decide]
        try simp only [u_asg, u_gN, u_ret, u_retN, u_skip, u_expr, u_ifs, u_c, u_op, u_neg, u_test, u_and, u_or, u_not, u_if, u_nil, u_cons, u_tup, u_lst, u_callP, u_call, u_b, u_chain, u_andV, u_addI, u_subI, u_mulI, u_divI, u_modI, u_powI, u_cmpI, u_eqI, u_eqS, u_eqB, u_abs, u_intI, u_intB, u_newT, u_newF, u_isN, u_notN, wVar, List.set_cons_zero, List.set_cons_succ, List.getElem?_cons_zero, List.getElem?_cons_succ, List.length_cons, List.length_nil, u_lc, u_for, u_r1, u_r2, u_r3, u_num, u_notV, u_yes, u_w0, u_w1, u_dput, u_get2, u_dget, u_prop, u_fld, u_setF, u_make, u_makeS, u_met, u_calO, u_orT, u_tupIt, u_dc, u_maxDd, u_dnew, u_tupi, ix_p0, ix_p1, wSl, woNone, woSome]
        by_cases c : 1000000 < topI es + b
        · rw [if_pos (decide_eq_true c), u_ixTd h1, pr0, h2, u_addI]
          refine ⟨sz_le (show 2 ≤ 100000 by decide), ?_⟩
          rw [mv_long ne c] at k ⊢
          exact k
        · rw [if_neg (by rw [decide_eq_false c]; decide)]
          rw [mv_fit (.inr (by omega))] at k ⊢
          exact k
    rintro _ _ ⟨rfl, rfl⟩
    simp only [u_metK, u_prop, u_asg, u_gN, u_ret, u_retN, u_skip, u_expr, u_ifs, u_c, u_op, u_neg, u_test, u_and, u_or, u_not, u_if, u_nil, u_cons, u_tup, u_lst, u_callP, u_call, u_b, u_chain, u_andV, u_addI, u_subI, u_mulI, u_divI, u_modI, u_powI, u_cmpI, u_eqI, u_eqS, u_eqB, u_abs, u_intI, u_intB, u_newT, u_newF, u_isN, u_notN, wVar, List.set_cons_zero, List.set_cons_succ, List.getElem?_cons_zero, List.getElem?_cons_succ, List.length_cons, List.length_nil, u_lc, u_for, u_r1, u_r2, u_r3, u_num, u_notV, u_yes, u_w0, u_w1, u_dput, u_get2, u_dget, u_prop, u_fld, u_setF, u_make, u_makeS, u_met, u_calO, u_orT, u_tupIt, u_dc, u_maxDd, u_dnew, u_tupi, ix_p0, ix_p1, wSl, woNone, woSome]
    generalize hsh : (pd (mvD es b)).shown = sh
    refine rp_go rpm (by decide) (by decide) cur_mv ?_
    rw [hsh]
    refine rp_go rpm (by decide) (by decide) cur_mv ?_
    rw [hsh]
    refine text_same ?_
    try dsimp only
    rw [if_neg (by decide)]
    refine hear2 z hstd hr hl b01.1 tb1 rfl rfl ?_
    refine rp_go rpm (by decide) (by decide) cur_mv ?_
    rw [hsh]
    refine rp_go rpm (by decide) (by decide) cur_mv ?_
    rw [hsh]
    refine text_same ?_
    try dsimp only
    rw [if_neg (by decide)]
    exact k _ _ ⟨_, _, _, _, rfl, I.mono (by omega)⟩
  · rintro _ g ⟨a, b, c, d, rfl, I⟩
    rw [intsD_len] at I
    try dsimp only
    rw [u_ret, u_c]
    obtain ⟨o', s1, s2⟩ := I.sub
    exact fin_sub s2 (q o' (s1.mono (by omega)))
end K26
namespace K26
open PySem PySem.Spec L2 C8 DL PK PL PQ PN PB F4 PR
/-! ### lengths of ledgers by their rows -/
theorem len_led {gs rows : Prs} {c : Int} (hg : InR gs) (hr : InR rows) (l : Led gs (amt rows)) : lenAt gs c = lenAt rows c := by
  rw [len_amt hg, len_amt hr, l.eqA]
theorem len_app {es fs : Prs} {c : Int} : lenAt (es ++ fs) c = lenAt es c + lenAt fs c := by
  unfold lenAt
  rw [List.map_append, List.sum_append]
theorem len_mulP {n c : Int} : ∀ {es : Prs}, lenAt (mulP n es) c = n * lenAt es c
  | [] => by show (0 : Int) = n * 0; omega
  | e :: es => by
    have ih := len_mulP (n := n) (c := c) (es := es)
    show e.2 * n * (e.1 % c) + lenAt (mulP n es) c = n * (e.2 * (e.1 % c) + lenAt es c)
    rw [ih, Int.mul_add, Int.mul_comm e.2 n, Int.mul_assoc]
theorem len_one : ∀ {es : Prs}, lenAt es 1 = 0
  | [] => rfl
  | e :: es => by
    show e.2 * (e.1 % 1) + lenAt es 1 = 0
    rw [len_one, Int.emod_one, Int.mul_zero]; rfl
theorem len_sm {es : Prs} {c : Int} (r : Rws es) (hc : 1 ≤ c) : (lenAt es c).natAbs < 2 ^ 200 := by
  have h1 := sum_sm (K := 2 ^ 130) (xs := es.map fun e => e.2 * (e.1 % c)) fun x hx => by
    obtain ⟨e, he, rfl⟩ := List.mem_map.mp hx
    have a := r.sm e he
    have b := r.inr e he
    have m0 := Int.emod_nonneg e.1 (show c ≠ 0 by omega)
    have m1 : e.1 % c ≤ e.1 := by
      have h1 := sm_mod b.1 hc
      have := Int.mul_nonneg (Int.ediv_nonneg b.1 (show (0 : Int) ≤ c by omega)) (show (0 : Int) ≤ c by omega)
      omega
    rw [Int.natAbs_mul]
    have m2 : (e.1 % c).natAbs < 2 ^ 20 := by omega
    exact Nat.lt_of_lt_of_le (Nat.mul_lt_mul'' a m2) (by decide)
  have h2 : (es.map fun e => e.2 * (e.1 % c)).length ≤ 6 := by rw [List.length_map]; exact r.len
  have h3 := Nat.mul_le_mul_right (2 ^ 130) h2
  unfold lenAt
  generalize (es.map fun e => e.2 * (e.1 % c)).sum = S at *
  omega
theorem cap_ok {c : Int} (c1 : 1 ≤ c) (c2 : c ≤ 10 ^ 30) : capB (.int c) = true := by
  unfold capB btw
  dsimp only
  rw [decide_eq_true c1, decide_eq_true c2]; rfl
theorem call_go (z : Ad) {gs : Prs} {c : Int} {h : AH} {Q : KD} {X : KX} (hr : InR gs) (hl : gs.length ≤ 100) (c1 : 1 ≤ c) (c2 : c ≤ 10 ^ 30) (q : Q (.int (lenAt gs c)) h) : S_Ledger___call__ z [ledD z.Ledger gs, .int c] h Q X :=
  ⟨gs, .int c, "int", rfl, rfl, hr, by omega, fun c' e _ _ => by cases e; exact q, fun h => absurd h (by rw [cap_ok c1 c2]; decide)⟩
theorem rq_ints {a b : Int} (ha : a.natAbs < 2 ^ 210) (hb : b.natAbs < 2 ^ 210) : Rq (.lst [.int a, .int b]) 1 1000 := (rq_lst (k := 0) (n := 211) (fun x hx => by
  rcases List.mem_cons.mp hx with rfl | hx
  · exact rq_int (by decide) (by decide) ha
  · rw [List.mem_singleton] at hx; subst hx
    exact rq_int (by decide) (by decide) hb)).up (by decide) (show 3 + 2 * (211 + 2) ≤ 1000 by decide)
theorem p__law_called_right (z : Ad) : ∀ ds h Q X, S__law_called_right z ds h Q X → w__law_called_right z (endsD Q X) (startD 12 ds) h := by
  rintro ds h Q X ⟨n, p, one, other, rfl, tb, I, hn, r1, r2, q⟩
  show w__law_called_right z (endsD Q X) [some (.ref p), some (.lst (one.map pairD)), some (.lst (other.map pairD)), none, none, none, none, none, none, none, none, none] h
  have pt : z.t0 ≠ p := by rintro e; obtain ⟨o, e1, cs, _, _, e2, _⟩ := I; rw [← e, tb.1, e2] at e1; cases e1
  replace I := Inv0.start I
  have big := DL.big_size
  have l1 := r1.len
  have l2 := r2.len
  unfold w__law_called_right
  rw [u_seq, u_asg, u_tup]
  simp only [u_callP, u_cons, u_nil]
  rw [u_var rfl]
  refine ⟨rfl, one, rfl, r1.inr, l1, fun gs g1 g2 g3 => ?_⟩
  try dsimp only
  rw [u_var rfl]
  refine ⟨rfl, other, rfl, r2.inr, l2, fun fs f1 f2 f3 => ?_⟩
  refine ⟨sz_le (show 2 ≤ 100000 by decide), ?_⟩
  refine ⟨_, rfl, rfl, _, _, rfl, _, _, rfl, rfl, ?_⟩
  try dsimp only [List.set_cons_zero, List.set_cons_succ]
  have big2 : gs.length ≤ 6 ∧ fs.length ≤ 6 := by omega
  have lg : ∀ c, lenAt gs c = lenAt one c := fun c => len_led g2 r1.inr g1
  have mo : ∀ c, 1 ≤ c → (lenAt one c).natAbs < 2 ^ 200 := fun c hc => len_sm r1 hc
  rw [u_seq, u_for, u_r1]
  simp only [u_cons, u_nil, u_c]
  refine ⟨by decide, by decide, ?_⟩
  rw [show Int.toNat 6 = 6 from rfl]
  refine loop_go (fun i ρ g => ∃ (a b c : Option D), ρ = [some (.ref p), some (.lst (one.map pairD)), some (.lst (other.map pairD)), some (ledD z.Ledger gs), some (ledD z.Ledger fs), a, b, c, none, none, none, none] ∧ Inv0 h p (n + 7 * (i : Nat)) g) ⟨_, _, _, rfl, by simpa using I⟩ (fun _ _ _ _ => trivial) ?_ ?_
  · rintro i x ρ k1 K hi ⟨a, b, c, rfl, I⟩ k
    obtain ⟨rfl, li⟩ := intsD_get hi
    rw [u_gN]
    dsimp only [List.set_cons_zero, List.set_cons_succ]
    rw [u_seq, u_asg, u_callP]
    simp only [u_cons, u_nil]
    rw [u_var rfl]
    try dsimp only
    rw [u_lc, u_seqi, u_var rfl]
    try dsimp only
    intro t ht
    refine comp_map pairD (fun e => .int e.1) one (fun acc => trivial) (sz_le (by omega)) (fun x acc K hx la k => ?_) ?_
    · refine ⟨_, rfl, rfl, _, _, rfl, _, _, rfl, rfl, ?_⟩
      try simp only [wYes, u_asg, u_gN, u_ret, u_retN, u_skip, u_expr, u_ifs, u_c, u_op, u_neg, u_test, u_and, u_or, u_not, u_if, u_nil, u_cons, u_tup, u_lst, u_callP, u_call, u_b, u_chain, u_andV, u_addI, u_subI, u_mulI, u_divI, u_modI, u_powI, u_cmpI, u_eqI, u_eqS, u_eqB, u_abs, u_intI, u_intB, u_newT, u_newF, u_isN, u_notN, wVar, List.set_cons_zero, List.set_cons_succ, List.getElem?_cons_zero, List.getElem?_cons_succ, List.length_cons, List.length_nil, u_lc, u_for, u_r1, u_r2, u_r3, u_num, u_notV, u_yes, u_w0, u_w1, u_dput, u_get2, u_dget, u_prop, u_fld, u_setF, u_make, u_makeS, u_met, u_calO, u_orT, u_tupIt, u_dc, u_maxDd, u_dnew, u_tupi, ix_p0, ix_p1, wSl, woNone, woSome]
      try rw [if_pos trivial]
      exact ⟨acc, up_same, la, by rw [up_up]; exact k⟩
    refine endF ht ?_
    refine ⟨rfl, _, p, one.map (·.1), rfl.trans (by rw [List.map_map]; rfl), I.pen, by omega, by rw [List.length_map]; omega, fun x hx => ?_, fun c o c1 c2 po => ?_⟩
    · obtain ⟨e, he, rfl⟩ := List.mem_map.mp hx
      exact r1.inr e he
    have I := I.draw po
    generalize up k1 p o = k1 at I ⊢
    try dsimp only
    rw [u_gN]
    dsimp only [List.set_cons_zero, List.set_cons_succ]
    rw [u_seq, u_asg, u_callP]
    simp only [u_cons, u_nil]
    rw [u_var rfl]
    try dsimp only
    rw [u_var rfl]
    refine ⟨rfl, one, c, rfl, r1.inr, by omega, c1, c2, ?_⟩
    try dsimp only
    rw [u_gN]
    dsimp only [List.set_cons_zero, List.set_cons_succ]
    rw [u_seq]
    simp only [u_calO, u_calK, u_own2, u_ownI, u_asg, u_gN, u_ret, u_retN, u_skip, u_expr, u_ifs, u_c, u_op, u_neg, u_test, u_and, u_or, u_not, u_if, u_nil, u_cons, u_tup, u_lst, u_callP, u_call, u_b, u_chain, u_andV, u_addI, u_subI, u_mulI, u_divI, u_modI, u_powI, u_cmpI, u_eqI, u_eqS, u_eqB, u_abs, u_intI, u_intB, u_newT, u_newF, u_isN, u_notN, wVar, List.set_cons_zero, List.set_cons_succ, List.getElem?_cons_zero, List.getElem?_cons_succ, List.length_cons, List.length_nil, u_lc, u_for, u_r1, u_r2, u_r3, u_num, u_notV, u_yes, u_w0, u_w1, u_dput, u_get2, u_dget, u_prop, u_fld, u_setF, u_make, u_makeS, u_met, u_calO, u_orT, u_tupIt, u_dc, u_maxDd, u_dnew, u_tupi, ix_p0, ix_p1, wSl, woNone, woSome]
    refine ⟨⟨_, rfl⟩, ⟨_, rfl⟩, call_go z g2 (by omega) c1 c2 ?_⟩
    refine ⟨⟨_, rfl⟩, ⟨_, rfl⟩, trivial, call_go z g2 (by omega) c1 c2 ?_⟩
    rw [lg c]
    have mc := mo c c1
    refine ⟨sz_le (show 2 ≤ 100000 by decide), ?_⟩
    generalize hv : lenAt one c = v at mc ⊢
    generalize hsh : (pq (.lst [.int v, .int v])).shown = sh
    refine go_rq (rq_ints (by omega) (by omega)) (by decide) (by decide) ?_
    rw [hsh]
    refine ⟨sz_le (show 2 ≤ 100000 by decide), ?_⟩
    refine go_rq (rq_ints (by omega) (by omega)) (by decide) (by decide) ?_
    rw [hsh]
    refine text_same ?_
    try dsimp only
    rw [if_neg (by decide), u_seq]
    simp only [u_calO, u_calK, u_own2, u_ownI, u_asg, u_gN, u_ret, u_retN, u_skip, u_expr, u_ifs, u_c, u_op, u_neg, u_test, u_and, u_or, u_not, u_if, u_nil, u_cons, u_tup, u_lst, u_callP, u_call, u_b, u_chain, u_andV, u_addI, u_subI, u_mulI, u_divI, u_modI, u_powI, u_cmpI, u_eqI, u_eqS, u_eqB, u_abs, u_intI, u_intB, u_newT, u_newF, u_isN, u_notN, wVar, List.set_cons_zero, List.set_cons_succ, List.getElem?_cons_zero, List.getElem?_cons_succ, List.length_cons, List.length_nil, u_lc, u_for, u_r1, u_r2, u_r3, u_num, u_notV, u_yes, u_w0, u_w1, u_dput, u_get2, u_dget, u_prop, u_fld, u_setF, u_make, u_makeS, u_met, u_calO, u_orT, u_tupIt, u_dc, u_maxDd, u_dnew, u_tupi, ix_p0, ix_p1, wSl, woNone, woSome]
    refine ⟨ledD_isI, ledD_isI, gs, fs, rfl, g2, f2, by omega, fun ss s1 s2 s3 => ?_⟩
    refine ⟨⟨_, rfl⟩, ⟨_, rfl⟩, call_go z s2 (by omega) c1 c2 ?_⟩
    have es : lenAt ss c = v + lenAt other c := by
      rw [len_led (rows := one ++ other) s2 (r1.inr.append r2.inr) (s1.of_amt fun k => by rw [amt_append, g1.eqA, f1.eqA]), len_app, hv]
    rw [es]
    refine ⟨trivial, other, c, rfl, r2.inr, by omega, c1, c2, ?_⟩
    try dsimp only
    rw [u_addI, u_eqI, decide_eq_true rfl]
    try dsimp only
    rw [if_neg (by decide)]
    refine ⟨ledD_isI, gs, -3, rfl, g2, by omega, fun e _ => .inr (.inl ⟨by decide, by decide⟩), fun ts t1 t2 t3 => ?_⟩
    refine ⟨⟨_, rfl⟩, ⟨_, rfl⟩, call_go z t2 (by omega) c1 c2 ?_⟩
    have et : lenAt ts c = -3 * v := by
      rw [len_led (rows := mulP (-3) one) t2 (mul_inr r1.inr) (t1.of_amt fun k => by rw [amt_mul, g1.eqA]), len_mulP, hv]
    rw [et]
    refine ⟨.inl ⟨by decide, by decide⟩, ?_⟩
    rw [u_eqI, decide_eq_true rfl]
    try dsimp only
    rw [if_neg (by decide)]
    exact k _ _ ⟨_, _, _, rfl, I.mono (by omega)⟩
  · rintro _ g ⟨a, b, c, rfl, I⟩
    rw [intsD_len] at I
    try dsimp only
    rw [u_seq, u_asg, u_b]
    simp only [u_cons, u_nil]
    rw [u_lc, u_seqi, u_var rfl]
    try dsimp only
    intro t ht
    refine comp_map pairD (fun e => .int (e.1 * e.2)) one (fun acc => trivial) (sz_le (by omega)) (fun x acc K hx la k => ?_) ?_
    · have rx := r1.inr x hx
      refine ⟨_, rfl, rfl, _, _, rfl, _, _, rfl, rfl, ?_⟩
      try simp only [wYes, u_asg, u_gN, u_ret, u_retN, u_skip, u_expr, u_ifs, u_c, u_op, u_neg, u_test, u_and, u_or, u_not, u_if, u_nil, u_cons, u_tup, u_lst, u_callP, u_call, u_b, u_chain, u_andV, u_addI, u_subI, u_mulI, u_divI, u_modI, u_powI, u_cmpI, u_eqI, u_eqS, u_eqB, u_abs, u_intI, u_intB, u_newT, u_newF, u_isN, u_notN, wVar, List.set_cons_zero, List.set_cons_succ, List.getElem?_cons_zero, List.getElem?_cons_succ, List.length_cons, List.length_nil, u_lc, u_for, u_r1, u_r2, u_r3, u_num, u_notV, u_yes, u_w0, u_w1, u_dput, u_get2, u_dget, u_prop, u_fld, u_setF, u_make, u_makeS, u_met, u_calO, u_orT, u_tupIt, u_dc, u_maxDd, u_dnew, u_tupi, ix_p0, ix_p1, wSl, woNone, woSome]
      try rw [if_pos trivial]
      exact ⟨.inl ⟨by omega, by omega⟩, acc, up_same, la, by rw [up_up]; exact k⟩
    refine endF ht ⟨_, one.map (fun e => e.1 * e.2), rfl, by rw [List.map_map]; rfl, ?_⟩
    try dsimp only
    rw [u_gN]
    dsimp only [List.set_cons_zero, List.set_cons_succ]
    rw [u_seq]
    simp only [u_calO, u_calK, u_own2, u_ownI, u_asg, u_gN, u_ret, u_retN, u_skip, u_expr, u_ifs, u_c, u_op, u_neg, u_test, u_and, u_or, u_not, u_if, u_nil, u_cons, u_tup, u_lst, u_callP, u_call, u_b, u_chain, u_andV, u_addI, u_subI, u_mulI, u_divI, u_modI, u_powI, u_cmpI, u_eqI, u_eqS, u_eqB, u_abs, u_intI, u_intB, u_newT, u_newF, u_isN, u_notN, wVar, List.set_cons_zero, List.set_cons_succ, List.getElem?_cons_zero, List.getElem?_cons_succ, List.length_cons, List.length_nil, u_lc, u_for, u_r1, u_r2, u_r3, u_num, u_notV, u_yes, u_w0, u_w1, u_dput, u_get2, u_dget, u_prop, u_fld, u_setF, u_make, u_makeS, u_met, u_calO, u_orT, u_tupIt, u_dc, u_maxDd, u_dnew, u_tupi, ix_p0, ix_p1, wSl, woNone, woSome]
    generalize hM : (10 : Int) ^ Int.toNat 30 = M
    have hM : (10 : Int) ^ 30 = M := hM
    have m1 : 1000001 ≤ M := by rw [← hM]; decide
    refine ⟨⟨_, rfl⟩, pw30, ⟨_, rfl⟩, call_go z g2 (by omega) (by omega) (by rw [hM]; exact Int.le_refl _) ?_⟩
    have ew : lenAt gs M = (one.map fun e => e.1 * e.2).sum := by
      rw [lg, len_far fun e he => ⟨(r1.inr e he).1, by have := (r1.inr e he).2; omega⟩]
      congr 1
      exact List.map_congr_left fun e _ => Int.mul_comm _ _
    rw [ew, u_eqI, decide_eq_true rfl]
    try dsimp only
    rw [if_neg (by decide)]
    refine ⟨⟨_, rfl⟩, ⟨_, rfl⟩, call_go z g2 (by omega) (by decide) (by decide) ?_⟩
    rw [len_one, u_eqI, decide_eq_true rfl]
    try dsimp only
    rw [if_neg (by decide), u_seq, u_asg, u_callP]
    simp only [u_cons, u_nil]
    rw [u_var rfl]
    refine ⟨rfl, _, p, rfl, I.pen, by omega, fun x o ox po => ?_⟩
    have I := I.draw po
    generalize up g p o = g at I ⊢
    have tb1 : g z.t0 = some (.tab (("_law_called_right" : Str) ++ ".<locals>." ++ "<lambda>")) := I.old _ _ tb.1 pt
    try dsimp only
    rw [u_gN]
    dsimp only [List.set_cons_zero, List.set_cons_succ]
    rw [u_ret, u_op, u_b]
    simp only [u_cons, u_nil]
    refine ⟨tb1, ?_⟩
    show wCalO z.Ledger _ _ _ _ _ _ _
    rw [u_calO, u_var rfl]
    refine ⟨⟨_, rfl⟩, ?_⟩
    simp only [u_cons, u_nil]
    rw [u_var rfl]
    obtain ⟨t, ht⟩ := ox.ty g
    refine ⟨⟨_, rfl⟩, gs, x, t, rfl, ht, g2, by omega, fun c e c1 c2 => absurd ox.bt (by rw [e, cap_ok c1 c2]; decide), fun _ => ⟨_, _, _, _, rfl, .cap x, ?_⟩⟩
    have rq : Rq (.tup [.str "capacity", x]) 3 5000 := (rq_tup (k := 2) (n := 1000) (fun y hy => by
      rcases List.mem_cons.mp hy with rfl | hy
      · exact (rq_str (n := 300) (by rw [PyData.shown]; decide +kernel)).up (by decide) (by decide)
      · rw [List.mem_singleton] at hy; subst hy
        exact ox.rq)).up (by decide) (show 3 + 2 * (1000 + 2) ≤ 5000 by decide)
    generalize hsh : (pq (.tup [.str "capacity", x])).shown = sh
    refine go_rq rq (by decide) (by decide) ?_
    rw [hsh, u_b]
    simp only [u_cons, u_nil, u_tup, u_c]
    rw [u_var rfl]
    refine ⟨sz_le (show 2 ≤ 100000 by decide), ?_⟩
    refine go_rq rq (by decide) (by decide) ?_
    rw [hsh]
    refine text_same ?_
    obtain ⟨o', s1, s2⟩ := I.sub
    exact fin_sub s2 (q o' (s1.mono (by omega)))
end K26
namespace K26
open PySem PySem.Spec L2 C8 DL PK PL PQ PN PB F4 PR
theorem p__law_ledger (z : Ad) : ∀ ds h Q X, S__law_ledger z ds h Q X → w__law_ledger z (endsD Q X) (startD 1 ds) h := by
  rintro ds h Q X ⟨rows, rfl, hr, hl, q⟩
  show w__law_ledger z (endsD Q X) [some (.lst (rows.map pairD))] h
  unfold w__law_ledger
  have go : ∀ a : Addr, h a = none → starS 1 (S_init z.Ledger) (.ref a :: rows.map pairD) (up h a (.ins z.Ledger [])) (fun v h2 => v = .non ∧ ∃ fs, h2 a = some (.ins z.Ledger fs) ∧ (endsD Q X).rt (.ob z.Ledger fs) (rm h2 a)) (endsD Q X).ex := fun a ha => by
    refine make_led (rows := rows) rfl ha hr (by omega) fun gs h1 h2 h3 => ⟨rfl, _, up_same, ?_⟩
    rw [rm_up, rm_none ha]
    exact fin_of (q gs h1 h2 h3)
  match rows, hl, go with
  | [], _, go =>
    rw [u_seq]
    simp only [u_asg, u_gN, u_ret, u_retN, u_skip, u_expr, u_ifs, u_c, u_op, u_neg, u_test, u_and, u_or, u_not, u_if, u_nil, u_cons, u_tup, u_lst, u_callP, u_call, u_b, u_chain, u_andV, u_addI, u_subI, u_mulI, u_divI, u_modI, u_powI, u_cmpI, u_eqI, u_eqS, u_eqB, u_abs, u_intI, u_intB, u_newT, u_newF, u_isN, u_notN, wVar, List.set_cons_zero, List.set_cons_succ, List.getElem?_cons_zero, List.getElem?_cons_succ, List.length_cons, List.length_nil, u_lc, u_for, u_r1, u_r2, u_r3, u_num, u_notV, u_yes, u_w0, u_w1, u_dput, u_get2, u_dget, u_prop, u_fld, u_setF, u_make, u_makeS, u_met, u_calO, u_orT, u_tupIt, u_dc, u_maxDd, u_dnew, u_tupi, ix_p0, ix_p1, wSl, woNone, woSome]
    refine len_of rfl ?_
    simp only [List.map_cons, List.map_nil, List.length_cons, List.length_nil, u_asg, u_gN, u_ret, u_retN, u_skip, u_expr, u_ifs, u_c, u_op, u_neg, u_test, u_and, u_or, u_not, u_if, u_nil, u_cons, u_tup, u_lst, u_callP, u_call, u_b, u_chain, u_andV, u_addI, u_subI, u_mulI, u_divI, u_modI, u_powI, u_cmpI, u_eqI, u_eqS, u_eqB, u_abs, u_intI, u_intB, u_newT, u_newF, u_isN, u_notN, wVar, List.set_cons_zero, List.set_cons_succ, List.getElem?_cons_zero, List.getElem?_cons_succ, List.length_cons, List.length_nil, u_lc, u_for, u_r1, u_r2, u_r3, u_num, u_notV, u_yes, u_w0, u_w1, u_dput, u_get2, u_dget, u_prop, u_fld, u_setF, u_make, u_makeS, u_met, u_calO, u_orT, u_tupIt, u_dc, u_maxDd, u_dnew, u_tupi, ix_p0, ix_p1, wSl, woNone, woSome]
    rw [if_pos (by decide)]
    refine ⟨Nat.zero_le _, nil_lst (fl_lst (fl_pairs [])) (by decide) ?_⟩
    try dsimp only
    rw [if_neg (by simp)]
    exact go
  | [a], _, go =>
    rw [u_seq]
    simp only [u_asg, u_gN, u_ret, u_retN, u_skip, u_expr, u_ifs, u_c, u_op, u_neg, u_test, u_and, u_or, u_not, u_if, u_nil, u_cons, u_tup, u_lst, u_callP, u_call, u_b, u_chain, u_andV, u_addI, u_subI, u_mulI, u_divI, u_modI, u_powI, u_cmpI, u_eqI, u_eqS, u_eqB, u_abs, u_intI, u_intB, u_newT, u_newF, u_isN, u_notN, wVar, List.set_cons_zero, List.set_cons_succ, List.getElem?_cons_zero, List.getElem?_cons_succ, List.length_cons, List.length_nil, u_lc, u_for, u_r1, u_r2, u_r3, u_num, u_notV, u_yes, u_w0, u_w1, u_dput, u_get2, u_dget, u_prop, u_fld, u_setF, u_make, u_makeS, u_met, u_calO, u_orT, u_tupIt, u_dc, u_maxDd, u_dnew, u_tupi, ix_p0, ix_p1, wSl, woNone, woSome]
    refine len_of rfl ?_
    simp only [List.map_cons, List.map_nil, List.length_cons, List.length_nil, u_asg, u_gN, u_ret, u_retN, u_skip, u_expr, u_ifs, u_c, u_op, u_neg, u_test, u_and, u_or, u_not, u_if, u_nil, u_cons, u_tup, u_lst, u_callP, u_call, u_b, u_chain, u_andV, u_addI, u_subI, u_mulI, u_divI, u_modI, u_powI, u_cmpI, u_eqI, u_eqS, u_eqB, u_abs, u_intI, u_intB, u_newT, u_newF, u_isN, u_notN, wVar, List.set_cons_zero, List.set_cons_succ, List.getElem?_cons_zero, List.getElem?_cons_succ, List.length_cons, List.length_nil, u_lc, u_for, u_r1, u_r2, u_r3, u_num, u_notV, u_yes, u_w0, u_w1, u_dput, u_get2, u_dget, u_prop, u_fld, u_setF, u_make, u_makeS, u_met, u_calO, u_orT, u_tupIt, u_dc, u_maxDd, u_dnew, u_tupi, ix_p0, ix_p1, wSl, woNone, woSome]
    rw [if_pos (by decide)]
    refine ⟨Nat.zero_le _, nil_lst (fl_lst (fl_pairs [a])) (by decide) ?_⟩
    try dsimp only
    rw [if_pos (by simp)]
    rw [u_ixLd (show atI _ 0 = some (pairD a) from rfl)]
    exact go
  | [a, b], _, go =>
    rw [u_seq]
    simp only [u_asg, u_gN, u_ret, u_retN, u_skip, u_expr, u_ifs, u_c, u_op, u_neg, u_test, u_and, u_or, u_not, u_if, u_nil, u_cons, u_tup, u_lst, u_callP, u_call, u_b, u_chain, u_andV, u_addI, u_subI, u_mulI, u_divI, u_modI, u_powI, u_cmpI, u_eqI, u_eqS, u_eqB, u_abs, u_intI, u_intB, u_newT, u_newF, u_isN, u_notN, wVar, List.set_cons_zero, List.set_cons_succ, List.getElem?_cons_zero, List.getElem?_cons_succ, List.length_cons, List.length_nil, u_lc, u_for, u_r1, u_r2, u_r3, u_num, u_notV, u_yes, u_w0, u_w1, u_dput, u_get2, u_dget, u_prop, u_fld, u_setF, u_make, u_makeS, u_met, u_calO, u_orT, u_tupIt, u_dc, u_maxDd, u_dnew, u_tupi, ix_p0, ix_p1, wSl, woNone, woSome]
    refine len_of rfl ?_
    simp only [List.map_cons, List.map_nil, List.length_cons, List.length_nil, u_asg, u_gN, u_ret, u_retN, u_skip, u_expr, u_ifs, u_c, u_op, u_neg, u_test, u_and, u_or, u_not, u_if, u_nil, u_cons, u_tup, u_lst, u_callP, u_call, u_b, u_chain, u_andV, u_addI, u_subI, u_mulI, u_divI, u_modI, u_powI, u_cmpI, u_eqI, u_eqS, u_eqB, u_abs, u_intI, u_intB, u_newT, u_newF, u_isN, u_notN, wVar, List.set_cons_zero, List.set_cons_succ, List.getElem?_cons_zero, List.getElem?_cons_succ, List.length_cons, List.length_nil, u_lc, u_for, u_r1, u_r2, u_r3, u_num, u_notV, u_yes, u_w0, u_w1, u_dput, u_get2, u_dget, u_prop, u_fld, u_setF, u_make, u_makeS, u_met, u_calO, u_orT, u_tupIt, u_dc, u_maxDd, u_dnew, u_tupi, ix_p0, ix_p1, wSl, woNone, woSome]
    rw [if_neg (by decide)]
    rw [u_seq]
    simp only [u_asg, u_gN, u_ret, u_retN, u_skip, u_expr, u_ifs, u_c, u_op, u_neg, u_test, u_and, u_or, u_not, u_if, u_nil, u_cons, u_tup, u_lst, u_callP, u_call, u_b, u_chain, u_andV, u_addI, u_subI, u_mulI, u_divI, u_modI, u_powI, u_cmpI, u_eqI, u_eqS, u_eqB, u_abs, u_intI, u_intB, u_newT, u_newF, u_isN, u_notN, wVar, List.set_cons_zero, List.set_cons_succ, List.getElem?_cons_zero, List.getElem?_cons_succ, List.length_cons, List.length_nil, u_lc, u_for, u_r1, u_r2, u_r3, u_num, u_notV, u_yes, u_w0, u_w1, u_dput, u_get2, u_dget, u_prop, u_fld, u_setF, u_make, u_makeS, u_met, u_calO, u_orT, u_tupIt, u_dc, u_maxDd, u_dnew, u_tupi, ix_p0, ix_p1, wSl, woNone, woSome]
    refine len_of rfl ?_
    simp only [List.map_cons, List.map_nil, List.length_cons, List.length_nil, u_asg, u_gN, u_ret, u_retN, u_skip, u_expr, u_ifs, u_c, u_op, u_neg, u_test, u_and, u_or, u_not, u_if, u_nil, u_cons, u_tup, u_lst, u_callP, u_call, u_b, u_chain, u_andV, u_addI, u_subI, u_mulI, u_divI, u_modI, u_powI, u_cmpI, u_eqI, u_eqS, u_eqB, u_abs, u_intI, u_intB, u_newT, u_newF, u_isN, u_notN, wVar, List.set_cons_zero, List.set_cons_succ, List.getElem?_cons_zero, List.getElem?_cons_succ, List.length_cons, List.length_nil, u_lc, u_for, u_r1, u_r2, u_r3, u_num, u_notV, u_yes, u_w0, u_w1, u_dput, u_get2, u_dget, u_prop, u_fld, u_setF, u_make, u_makeS, u_met, u_calO, u_orT, u_tupIt, u_dc, u_maxDd, u_dnew, u_tupi, ix_p0, ix_p1, wSl, woNone, woSome]
    rw [if_pos (by decide)]
    rw [u_ixLd (show atI _ 0 = some (pairD a) from rfl)]
    rw [u_ixLd (show atI _ 1 = some (pairD b) from rfl)]
    exact go
  | [a, b, c], _, go =>
    rw [u_seq]
    simp only [u_asg, u_gN, u_ret, u_retN, u_skip, u_expr, u_ifs, u_c, u_op, u_neg, u_test, u_and, u_or, u_not, u_if, u_nil, u_cons, u_tup, u_lst, u_callP, u_call, u_b, u_chain, u_andV, u_addI, u_subI, u_mulI, u_divI, u_modI, u_powI, u_cmpI, u_eqI, u_eqS, u_eqB, u_abs, u_intI, u_intB, u_newT, u_newF, u_isN, u_notN, wVar, List.set_cons_zero, List.set_cons_succ, List.getElem?_cons_zero, List.getElem?_cons_succ, List.length_cons, List.length_nil, u_lc, u_for, u_r1, u_r2, u_r3, u_num, u_notV, u_yes, u_w0, u_w1, u_dput, u_get2, u_dget, u_prop, u_fld, u_setF, u_make, u_makeS, u_met, u_calO, u_orT, u_tupIt, u_dc, u_maxDd, u_dnew, u_tupi, ix_p0, ix_p1, wSl, woNone, woSome]
    refine len_of rfl ?_
    simp only [List.map_cons, List.map_nil, List.length_cons, List.length_nil, u_asg, u_gN, u_ret, u_retN, u_skip, u_expr, u_ifs, u_c, u_op, u_neg, u_test, u_and, u_or, u_not, u_if, u_nil, u_cons, u_tup, u_lst, u_callP, u_call, u_b, u_chain, u_andV, u_addI, u_subI, u_mulI, u_divI, u_modI, u_powI, u_cmpI, u_eqI, u_eqS, u_eqB, u_abs, u_intI, u_intB, u_newT, u_newF, u_isN, u_notN, wVar, List.set_cons_zero, List.set_cons_succ, List.getElem?_cons_zero, List.getElem?_cons_succ, List.length_cons, List.length_nil, u_lc, u_for, u_r1, u_r2, u_r3, u_num, u_notV, u_yes, u_w0, u_w1, u_dput, u_get2, u_dget, u_prop, u_fld, u_setF, u_make, u_makeS, u_met, u_calO, u_orT, u_tupIt, u_dc, u_maxDd, u_dnew, u_tupi, ix_p0, ix_p1, wSl, woNone, woSome]
    rw [if_neg (by decide)]
    rw [u_seq]
    simp only [u_asg, u_gN, u_ret, u_retN, u_skip, u_expr, u_ifs, u_c, u_op, u_neg, u_test, u_and, u_or, u_not, u_if, u_nil, u_cons, u_tup, u_lst, u_callP, u_call, u_b, u_chain, u_andV, u_addI, u_subI, u_mulI, u_divI, u_modI, u_powI, u_cmpI, u_eqI, u_eqS, u_eqB, u_abs, u_intI, u_intB, u_newT, u_newF, u_isN, u_notN, wVar, List.set_cons_zero, List.set_cons_succ, List.getElem?_cons_zero, List.getElem?_cons_succ, List.length_cons, List.length_nil, u_lc, u_for, u_r1, u_r2, u_r3, u_num, u_notV, u_yes, u_w0, u_w1, u_dput, u_get2, u_dget, u_prop, u_fld, u_setF, u_make, u_makeS, u_met, u_calO, u_orT, u_tupIt, u_dc, u_maxDd, u_dnew, u_tupi, ix_p0, ix_p1, wSl, woNone, woSome]
    refine len_of rfl ?_
    simp only [List.map_cons, List.map_nil, List.length_cons, List.length_nil, u_asg, u_gN, u_ret, u_retN, u_skip, u_expr, u_ifs, u_c, u_op, u_neg, u_test, u_and, u_or, u_not, u_if, u_nil, u_cons, u_tup, u_lst, u_callP, u_call, u_b, u_chain, u_andV, u_addI, u_subI, u_mulI, u_divI, u_modI, u_powI, u_cmpI, u_eqI, u_eqS, u_eqB, u_abs, u_intI, u_intB, u_newT, u_newF, u_isN, u_notN, wVar, List.set_cons_zero, List.set_cons_succ, List.getElem?_cons_zero, List.getElem?_cons_succ, List.length_cons, List.length_nil, u_lc, u_for, u_r1, u_r2, u_r3, u_num, u_notV, u_yes, u_w0, u_w1, u_dput, u_get2, u_dget, u_prop, u_fld, u_setF, u_make, u_makeS, u_met, u_calO, u_orT, u_tupIt, u_dc, u_maxDd, u_dnew, u_tupi, ix_p0, ix_p1, wSl, woNone, woSome]
    rw [if_neg (by decide)]
    rw [u_seq]
    simp only [u_asg, u_gN, u_ret, u_retN, u_skip, u_expr, u_ifs, u_c, u_op, u_neg, u_test, u_and, u_or, u_not, u_if, u_nil, u_cons, u_tup, u_lst, u_callP, u_call, u_b, u_chain, u_andV, u_addI, u_subI, u_mulI, u_divI, u_modI, u_powI, u_cmpI, u_eqI, u_eqS, u_eqB, u_abs, u_intI, u_intB, u_newT, u_newF, u_isN, u_notN, wVar, List.set_cons_zero, List.set_cons_succ, List.getElem?_cons_zero, List.getElem?_cons_succ, List.length_cons, List.length_nil, u_lc, u_for, u_r1, u_r2, u_r3, u_num, u_notV, u_yes, u_w0, u_w1, u_dput, u_get2, u_dget, u_prop, u_fld, u_setF, u_make, u_makeS, u_met, u_calO, u_orT, u_tupIt, u_dc, u_maxDd, u_dnew, u_tupi, ix_p0, ix_p1, wSl, woNone, woSome]
    refine len_of rfl ?_
    simp only [List.map_cons, List.map_nil, List.length_cons, List.length_nil, u_asg, u_gN, u_ret, u_retN, u_skip, u_expr, u_ifs, u_c, u_op, u_neg, u_test, u_and, u_or, u_not, u_if, u_nil, u_cons, u_tup, u_lst, u_callP, u_call, u_b, u_chain, u_andV, u_addI, u_subI, u_mulI, u_divI, u_modI, u_powI, u_cmpI, u_eqI, u_eqS, u_eqB, u_abs, u_intI, u_intB, u_newT, u_newF, u_isN, u_notN, wVar, List.set_cons_zero, List.set_cons_succ, List.getElem?_cons_zero, List.getElem?_cons_succ, List.length_cons, List.length_nil, u_lc, u_for, u_r1, u_r2, u_r3, u_num, u_notV, u_yes, u_w0, u_w1, u_dput, u_get2, u_dget, u_prop, u_fld, u_setF, u_make, u_makeS, u_met, u_calO, u_orT, u_tupIt, u_dc, u_maxDd, u_dnew, u_tupi, ix_p0, ix_p1, wSl, woNone, woSome]
    rw [if_pos (by decide)]
    rw [u_ixLd (show atI _ 0 = some (pairD a) from rfl)]
    rw [u_ixLd (show atI _ 1 = some (pairD b) from rfl)]
    rw [u_ixLd (show atI _ 2 = some (pairD c) from rfl)]
    exact go
  | [a, b, c, d], _, go =>
    rw [u_seq]
    simp only [u_asg, u_gN, u_ret, u_retN, u_skip, u_expr, u_ifs, u_c, u_op, u_neg, u_test, u_and, u_or, u_not, u_if, u_nil, u_cons, u_tup, u_lst, u_callP, u_call, u_b, u_chain, u_andV, u_addI, u_subI, u_mulI, u_divI, u_modI, u_powI, u_cmpI, u_eqI, u_eqS, u_eqB, u_abs, u_intI, u_intB, u_newT, u_newF, u_isN, u_notN, wVar, List.set_cons_zero, List.set_cons_succ, List.getElem?_cons_zero, List.getElem?_cons_succ, List.length_cons, List.length_nil, u_lc, u_for, u_r1, u_r2, u_r3, u_num, u_notV, u_yes, u_w0, u_w1, u_dput, u_get2, u_dget, u_prop, u_fld, u_setF, u_make, u_makeS, u_met, u_calO, u_orT, u_tupIt, u_dc, u_maxDd, u_dnew, u_tupi, ix_p0, ix_p1, wSl, woNone, woSome]
    refine len_of rfl ?_
    simp only [List.map_cons, List.map_nil, List.length_cons, List.length_nil, u_asg, u_gN, u_ret, u_retN, u_skip, u_expr, u_ifs, u_c, u_op, u_neg, u_test, u_and, u_or, u_not, u_if, u_nil, u_cons, u_tup, u_lst, u_callP, u_call, u_b, u_chain, u_andV, u_addI, u_subI, u_mulI, u_divI, u_modI, u_powI, u_cmpI, u_eqI, u_eqS, u_eqB, u_abs, u_intI, u_intB, u_newT, u_newF, u_isN, u_notN, wVar, List.set_cons_zero, List.set_cons_succ, List.getElem?_cons_zero, List.getElem?_cons_succ, List.length_cons, List.length_nil, u_lc, u_for, u_r1, u_r2, u_r3, u_num, u_notV, u_yes, u_w0, u_w1, u_dput, u_get2, u_dget, u_prop, u_fld, u_setF, u_make, u_makeS, u_met, u_calO, u_orT, u_tupIt, u_dc, u_maxDd, u_dnew, u_tupi, ix_p0, ix_p1, wSl, woNone, woSome]
    rw [if_neg (by decide)]
    rw [u_seq]
    simp only [u_asg, u_gN, u_ret, u_retN, u_skip, u_expr, u_ifs, u_c, u_op, u_neg, u_test, u_and, u_or, u_not, u_if, u_nil, u_cons, u_tup, u_lst, u_callP, u_call, u_b, u_chain, u_andV, u_addI, u_subI, u_mulI, u_divI, u_modI, u_powI, u_cmpI, u_eqI, u_eqS, u_eqB, u_abs, u_intI, u_intB, u_newT, u_newF, u_isN, u_notN, wVar, List.set_cons_zero, List.set_cons_succ, List.getElem?_cons_zero, List.getElem?_cons_succ, List.length_cons, List.length_nil, u_lc, u_for, u_r1, u_r2, u_r3, u_num, u_notV, u_yes, u_w0, u_w1, u_dput, u_get2, u_dget, u_prop, u_fld, u_setF, u_make, u_makeS, u_met, u_calO, u_orT, u_tupIt, u_dc, u_maxDd, u_dnew, u_tupi, ix_p0, ix_p1, wSl, woNone, woSome]
    refine len_of rfl ?_
    simp only [List.map_cons, List.map_nil, List.length_cons, List.length_nil, u_asg, u_gN, u_ret, u_retN, u_skip, u_expr, u_ifs, u_c, u_op, u_neg, u_test, u_and, u_or, u_not, u_if, u_nil, u_cons, u_tup, u_lst, u_callP, u_call, u_b, u_chain, u_andV, u_addI, u_subI, u_mulI, u_divI, u_modI, u_powI, u_cmpI, u_eqI, u_eqS, u_eqB, u_abs, u_intI, u_intB, u_newT, u_newF, u_isN, u_notN, wVar, List.set_cons_zero, List.set_cons_succ, List.getElem?_cons_zero, List.getElem?_cons_succ, List.length_cons, List.length_nil, u_lc, u_for, u_r1, u_r2, u_r3, u_num, u_notV, u_yes, u_w0, u_w1, u_dput, u_get2, u_dget, u_prop, u_fld, u_setF, u_make, u_makeS, u_met, u_calO, u_orT, u_tupIt, u_dc, u_maxDd, u_dnew, u_tupi, ix_p0, ix_p1, wSl, woNone, woSome]
    rw [if_neg (by decide)]
    rw [u_seq]
    simp only [u_asg, u_gN, u_ret, u_retN, u_skip, u_expr, u_ifs, u_c, u_op, u_neg, u_test, u_and, u_or, u_not, u_if, u_nil, u_cons, u_tup, u_lst, u_callP, u_call, u_b, u_chain, u_andV, u_addI, u_subI, u_mulI, u_divI, u_modI, u_powI, u_cmpI, u_eqI, u_eqS, u_eqB, u_abs, u_intI, u_intB, u_newT, u_newF, u_isN, u_notN, wVar, List.set_cons_zero, List.set_cons_succ, List.getElem?_cons_zero, List.getElem?_cons_succ, List.length_cons, List.length_nil, u_lc, u_for, u_r1, u_r2, u_r3, u_num, u_notV, u_yes, u_w0, u_w1, u_dput, u_get2, u_dget, u_prop, u_fld, u_setF, u_make, u_makeS, u_met, u_calO, u_orT, u_tupIt, u_dc, u_maxDd, u_dnew, u_tupi, ix_p0, ix_p1, wSl, woNone, woSome]
    refine len_of rfl ?_
    simp only [List.map_cons, List.map_nil, List.length_cons, List.length_nil, u_asg, u_gN, u_ret, u_retN, u_skip, u_expr, u_ifs, u_c, u_op, u_neg, u_test, u_and, u_or, u_not, u_if, u_nil, u_cons, u_tup, u_lst, u_callP, u_call, u_b, u_chain, u_andV, u_addI, u_subI, u_mulI, u_divI, u_modI, u_powI, u_cmpI, u_eqI, u_eqS, u_eqB, u_abs, u_intI, u_intB, u_newT, u_newF, u_isN, u_notN, wVar, List.set_cons_zero, List.set_cons_succ, List.getElem?_cons_zero, List.getElem?_cons_succ, List.length_cons, List.length_nil, u_lc, u_for, u_r1, u_r2, u_r3, u_num, u_notV, u_yes, u_w0, u_w1, u_dput, u_get2, u_dget, u_prop, u_fld, u_setF, u_make, u_makeS, u_met, u_calO, u_orT, u_tupIt, u_dc, u_maxDd, u_dnew, u_tupi, ix_p0, ix_p1, wSl, woNone, woSome]
    rw [if_neg (by decide)]
    rw [u_seq]
    simp only [u_asg, u_gN, u_ret, u_retN, u_skip, u_expr, u_ifs, u_c, u_op, u_neg, u_test, u_and, u_or, u_not, u_if, u_nil, u_cons, u_tup, u_lst, u_callP, u_call, u_b, u_chain, u_andV, u_addI, u_subI, u_mulI, u_divI, u_modI, u_powI, u_cmpI, u_eqI, u_eqS, u_eqB, u_abs, u_intI, u_intB, u_newT, u_newF, u_isN, u_notN, wVar, List.set_cons_zero, List.set_cons_succ, List.getElem?_cons_zero, List.getElem?_cons_succ, List.length_cons, List.length_nil, u_lc, u_for, u_r1, u_r2, u_r3, u_num, u_notV, u_yes, u_w0, u_w1, u_dput, u_get2, u_dget, u_prop, u_fld, u_setF, u_make, u_makeS, u_met, u_calO, u_orT, u_tupIt, u_dc, u_maxDd, u_dnew, u_tupi, ix_p0, ix_p1, wSl, woNone, woSome]
    refine len_of rfl ?_
    simp only [List.map_cons, List.map_nil, List.length_cons, List.length_nil, u_asg, u_gN, u_ret, u_retN, u_skip, u_expr, u_ifs, u_c, u_op, u_neg, u_test, u_and, u_or, u_not, u_if, u_nil, u_cons, u_tup, u_lst, u_callP, u_call, u_b, u_chain, u_andV, u_addI, u_subI, u_mulI, u_divI, u_modI, u_powI, u_cmpI, u_eqI, u_eqS, u_eqB, u_abs, u_intI, u_intB, u_newT, u_newF, u_isN, u_notN, wVar, List.set_cons_zero, List.set_cons_succ, List.getElem?_cons_zero, List.getElem?_cons_succ, List.length_cons, List.length_nil, u_lc, u_for, u_r1, u_r2, u_r3, u_num, u_notV, u_yes, u_w0, u_w1, u_dput, u_get2, u_dget, u_prop, u_fld, u_setF, u_make, u_makeS, u_met, u_calO, u_orT, u_tupIt, u_dc, u_maxDd, u_dnew, u_tupi, ix_p0, ix_p1, wSl, woNone, woSome]
    rw [if_pos (by decide)]
    rw [u_ixLd (show atI _ 0 = some (pairD a) from rfl)]
    rw [u_ixLd (show atI _ 1 = some (pairD b) from rfl)]
    rw [u_ixLd (show atI _ 2 = some (pairD c) from rfl)]
    rw [u_ixLd (show atI _ 3 = some (pairD d) from rfl)]
    exact go
  | [a, b, c, d, e], _, go =>
    rw [u_seq]
    simp only [u_asg, u_gN, u_ret, u_retN, u_skip, u_expr, u_ifs, u_c, u_op, u_neg, u_test, u_and, u_or, u_not, u_if, u_nil, u_cons, u_tup, u_lst, u_callP, u_call, u_b, u_chain, u_andV, u_addI, u_subI, u_mulI, u_divI, u_modI, u_powI, u_cmpI, u_eqI, u_eqS, u_eqB, u_abs, u_intI, u_intB, u_newT, u_newF, u_isN, u_notN, wVar, List.set_cons_zero, List.set_cons_succ, List.getElem?_cons_zero, List.getElem?_cons_succ, List.length_cons, List.length_nil, u_lc, u_for, u_r1, u_r2, u_r3, u_num, u_notV, u_yes, u_w0, u_w1, u_dput, u_get2, u_dget, u_prop, u_fld, u_setF, u_make, u_makeS, u_met, u_calO, u_orT, u_tupIt, u_dc, u_maxDd, u_dnew, u_tupi, ix_p0, ix_p1, wSl, woNone, woSome]
    refine len_of rfl ?_
    simp only [List.map_cons, List.map_nil, List.length_cons, List.length_nil, u_asg, u_gN, u_ret, u_retN, u_skip, u_expr, u_ifs, u_c, u_op, u_neg, u_test, u_and, u_or, u_not, u_if, u_nil, u_cons, u_tup, u_lst, u_callP, u_call, u_b, u_chain, u_andV, u_addI, u_subI, u_mulI, u_divI, u_modI, u_powI, u_cmpI, u_eqI, u_eqS, u_eqB, u_abs, u_intI, u_intB, u_newT, u_newF, u_isN, u_notN, wVar, List.set_cons_zero, List.set_cons_succ, List.getElem?_cons_zero, List.getElem?_cons_succ, List.length_cons, List.length_nil, u_lc, u_for, u_r1, u_r2, u_r3, u_num, u_notV, u_yes, u_w0, u_w1, u_dput, u_get2, u_dget, u_prop, u_fld, u_setF, u_make, u_makeS, u_met, u_calO, u_orT, u_tupIt, u_dc, u_maxDd, u_dnew, u_tupi, ix_p0, ix_p1, wSl, woNone, woSome]
    rw [if_neg (by decide)]
    rw [u_seq]
    simp only [u_asg, u_gN, u_ret, u_retN, u_skip, u_expr, u_ifs, u_c, u_op, u_neg, u_test, u_and, u_or, u_not, u_if, u_nil, u_cons, u_tup, u_lst, u_callP, u_call, u_b, u_chain, u_andV, u_addI, u_subI, u_mulI, u_divI, u_modI, u_powI, u_cmpI, u_eqI, u_eqS, u_eqB, u_abs, u_intI, u_intB, u_newT, u_newF, u_isN, u_notN, wVar, List.set_cons_zero, List.set_cons_succ, List.getElem?_cons_zero, List.getElem?_cons_succ, List.length_cons, List.length_nil, u_lc, u_for, u_r1, u_r2, u_r3, u_num, u_notV, u_yes, u_w0, u_w1, u_dput, u_get2, u_dget, u_prop, u_fld, u_setF, u_make, u_makeS, u_met, u_calO, u_orT, u_tupIt, u_dc, u_maxDd, u_dnew, u_tupi, ix_p0, ix_p1, wSl, woNone, woSome]
    refine len_of rfl ?_
    simp only [List.map_cons, List.map_nil, List.length_cons, List.length_nil, u_asg, u_gN, u_ret, u_retN, u_skip, u_expr, u_ifs, u_c, u_op, u_neg, u_test, u_and, u_or, u_not, u_if, u_nil, u_cons, u_tup, u_lst, u_callP, u_call, u_b, u_chain, u_andV, u_addI, u_subI, u_mulI, u_divI, u_modI, u_powI, u_cmpI, u_eqI, u_eqS, u_eqB, u_abs, u_intI, u_intB, u_newT, u_newF, u_isN, u_notN, wVar, List.set_cons_zero, List.set_cons_succ, List.getElem?_cons_zero, List.getElem?_cons_succ, List.length_cons, List.length_nil, u_lc, u_for, u_r1, u_r2, u_r3, u_num, u_notV, u_yes, u_w0, u_w1, u_dput, u_get2, u_dget, u_prop, u_fld, u_setF, u_make, u_makeS, u_met, u_calO, u_orT, u_tupIt, u_dc, u_maxDd, u_dnew, u_tupi, ix_p0, ix_p1, wSl, woNone, woSome]
    rw [if_neg (by decide)]
    rw [u_seq]
    simp only [u_asg, u_gN, u_ret, u_retN, u_skip, u_expr, u_ifs, u_c, u_op, u_neg, u_test, u_and, u_or, u_not, u_if, u_nil, u_cons, u_tup, u_lst, u_callP, u_call, u_b, u_chain, u_andV, u_addI, u_subI, u_mulI, u_divI, u_modI, u_powI, u_cmpI, u_eqI, u_eqS, u_eqB, u_abs, u_intI, u_intB, u_newT, u_newF, u_isN, u_notN, wVar, List.set_cons_zero, List.set_cons_succ, List.getElem?_cons_zero, List.getElem?_cons_succ, List.length_cons, List.length_nil, u_lc, u_for, u_r1, u_r2, u_r3, u_num, u_notV, u_yes, u_w0, u_w1, u_dput, u_get2, u_dget, u_prop, u_fld, u_setF, u_make, u_makeS, u_met, u_calO, u_orT, u_tupIt, u_dc, u_maxDd, u_dnew, u_tupi, ix_p0, ix_p1, wSl, woNone, woSome]
    refine len_of rfl ?_
    simp only [List.map_cons, List.map_nil, List.length_cons, List.length_nil, u_asg, u_gN, u_ret, u_retN, u_skip, u_expr, u_ifs, u_c, u_op, u_neg, u_test, u_and, u_or, u_not, u_if, u_nil, u_cons, u_tup, u_lst, u_callP, u_call, u_b, u_chain, u_andV, u_addI, u_subI, u_mulI, u_divI, u_modI, u_powI, u_cmpI, u_eqI, u_eqS, u_eqB, u_abs, u_intI, u_intB, u_newT, u_newF, u_isN, u_notN, wVar, List.set_cons_zero, List.set_cons_succ, List.getElem?_cons_zero, List.getElem?_cons_succ, List.length_cons, List.length_nil, u_lc, u_for, u_r1, u_r2, u_r3, u_num, u_notV, u_yes, u_w0, u_w1, u_dput, u_get2, u_dget, u_prop, u_fld, u_setF, u_make, u_makeS, u_met, u_calO, u_orT, u_tupIt, u_dc, u_maxDd, u_dnew, u_tupi, ix_p0, ix_p1, wSl, woNone, woSome]
    rw [if_neg (by decide)]
    rw [u_seq]
    simp only [u_asg, u_gN, u_ret, u_retN, u_skip, u_expr, u_ifs, u_c, u_op, u_neg, u_test, u_and, u_or, u_not, u_if, u_nil, u_cons, u_tup, u_lst, u_callP, u_call, u_b, u_chain, u_andV, u_addI, u_subI, u_mulI, u_divI, u_modI, u_powI, u_cmpI, u_eqI, u_eqS, u_eqB, u_abs, u_intI, u_intB, u_newT, u_newF, u_isN, u_notN, wVar, List.set_cons_zero, List.set_cons_succ, List.getElem?_cons_zero, List.getElem?_cons_succ, List.length_cons, List.length_nil, u_lc, u_for, u_r1, u_r2, u_r3, u_num, u_notV, u_yes, u_w0, u_w1, u_dput, u_get2, u_dget, u_prop, u_fld, u_setF, u_make, u_makeS, u_met, u_calO, u_orT, u_tupIt, u_dc, u_maxDd, u_dnew, u_tupi, ix_p0, ix_p1, wSl, woNone, woSome]
    refine len_of rfl ?_
    simp only [List.map_cons, List.map_nil, List.length_cons, List.length_nil, u_asg, u_gN, u_ret, u_retN, u_skip, u_expr, u_ifs, u_c, u_op, u_neg, u_test, u_and, u_or, u_not, u_if, u_nil, u_cons, u_tup, u_lst, u_callP, u_call, u_b, u_chain, u_andV, u_addI, u_subI, u_mulI, u_divI, u_modI, u_powI, u_cmpI, u_eqI, u_eqS, u_eqB, u_abs, u_intI, u_intB, u_newT, u_newF, u_isN, u_notN, wVar, List.set_cons_zero, List.set_cons_succ, List.getElem?_cons_zero, List.getElem?_cons_succ, List.length_cons, List.length_nil, u_lc, u_for, u_r1, u_r2, u_r3, u_num, u_notV, u_yes, u_w0, u_w1, u_dput, u_get2, u_dget, u_prop, u_fld, u_setF, u_make, u_makeS, u_met, u_calO, u_orT, u_tupIt, u_dc, u_maxDd, u_dnew, u_tupi, ix_p0, ix_p1, wSl, woNone, woSome]
    rw [if_neg (by decide)]
    rw [u_seq]
    simp only [u_asg, u_gN, u_ret, u_retN, u_skip, u_expr, u_ifs, u_c, u_op, u_neg, u_test, u_and, u_or, u_not, u_if, u_nil, u_cons, u_tup, u_lst, u_callP, u_call, u_b, u_chain, u_andV, u_addI, u_subI, u_mulI, u_divI, u_modI, u_powI, u_cmpI, u_eqI, u_eqS, u_eqB, u_abs, u_intI, u_intB, u_newT, u_newF, u_isN, u_notN, wVar, List.set_cons_zero, List.set_cons_succ, List.getElem?_cons_zero, List.getElem?_cons_succ, List.length_cons, List.length_nil, u_lc, u_for, u_r1, u_r2, u_r3, u_num, u_notV, u_yes, u_w0, u_w1, u_dput, u_get2, u_dget, u_prop, u_fld, u_setF, u_make, u_makeS, u_met, u_calO, u_orT, u_tupIt, u_dc, u_maxDd, u_dnew, u_tupi, ix_p0, ix_p1, wSl, woNone, woSome]
    refine len_of rfl ?_
    simp only [List.map_cons, List.map_nil, List.length_cons, List.length_nil, u_asg, u_gN, u_ret, u_retN, u_skip, u_expr, u_ifs, u_c, u_op, u_neg, u_test, u_and, u_or, u_not, u_if, u_nil, u_cons, u_tup, u_lst, u_callP, u_call, u_b, u_chain, u_andV, u_addI, u_subI, u_mulI, u_divI, u_modI, u_powI, u_cmpI, u_eqI, u_eqS, u_eqB, u_abs, u_intI, u_intB, u_newT, u_newF, u_isN, u_notN, wVar, List.set_cons_zero, List.set_cons_succ, List.getElem?_cons_zero, List.getElem?_cons_succ, List.length_cons, List.length_nil, u_lc, u_for, u_r1, u_r2, u_r3, u_num, u_notV, u_yes, u_w0, u_w1, u_dput, u_get2, u_dget, u_prop, u_fld, u_setF, u_make, u_makeS, u_met, u_calO, u_orT, u_tupIt, u_dc, u_maxDd, u_dnew, u_tupi, ix_p0, ix_p1, wSl, woNone, woSome]
    rw [if_pos (by decide)]
    rw [u_ixLd (show atI _ 0 = some (pairD a) from rfl)]
    rw [u_ixLd (show atI _ 1 = some (pairD b) from rfl)]
    rw [u_ixLd (show atI _ 2 = some (pairD c) from rfl)]
    rw [u_ixLd (show atI _ 3 = some (pairD d) from rfl)]
    rw [u_ixLd (show atI _ 4 = some (pairD e) from rfl)]
    exact go
  | [a, b, c, d, e, f], _, go =>
    rw [u_seq]
    simp only [u_asg, u_gN, u_ret, u_retN, u_skip, u_expr, u_ifs, u_c, u_op, u_neg, u_test, u_and, u_or, u_not, u_if, u_nil, u_cons, u_tup, u_lst, u_callP, u_call, u_b, u_chain, u_andV, u_addI, u_subI, u_mulI, u_divI, u_modI, u_powI, u_cmpI, u_eqI, u_eqS, u_eqB, u_abs, u_intI, u_intB, u_newT, u_newF, u_isN, u_notN, wVar, List.set_cons_zero, List.set_cons_succ, List.getElem?_cons_zero, List.getElem?_cons_succ, List.length_cons, List.length_nil, u_lc, u_for, u_r1, u_r2, u_r3, u_num, u_notV, u_yes, u_w0, u_w1, u_dput, u_get2, u_dget, u_prop, u_fld, u_setF, u_make, u_makeS, u_met, u_calO, u_orT, u_tupIt, u_dc, u_maxDd, u_dnew, u_tupi, ix_p0, ix_p1, wSl, woNone, woSome]
    refine len_of rfl ?_
    simp only [List.map_cons, List.map_nil, List.length_cons, List.length_nil, u_asg, u_gN, u_ret, u_retN, u_skip, u_expr, u_ifs, u_c, u_op, u_neg, u_test, u_and, u_or, u_not, u_if, u_nil, u_cons, u_tup, u_lst, u_callP, u_call, u_b, u_chain, u_andV, u_addI, u_subI, u_mulI, u_divI, u_modI, u_powI, u_cmpI, u_eqI, u_eqS, u_eqB, u_abs, u_intI, u_intB, u_newT, u_newF, u_isN, u_notN, wVar, List.set_cons_zero, List.set_cons_succ, List.getElem?_cons_zero, List.getElem?_cons_succ, List.length_cons, List.length_nil, u_lc, u_for, u_r1, u_r2, u_r3, u_num, u_notV, u_yes, u_w0, u_w1, u_dput, u_get2, u_dget, u_prop, u_fld, u_setF, u_make, u_makeS, u_met, u_calO, u_orT, u_tupIt, u_dc, u_maxDd, u_dnew, u_tupi, ix_p0, ix_p1, wSl, woNone, woSome]
    rw [if_neg (by decide)]
    rw [u_seq]
    simp only [u_asg, u_gN, u_ret, u_retN, u_skip, u_expr, u_ifs, u_c, u_op, u_neg, u_test, u_and, u_or, u_not, u_if, u_nil, u_cons, u_tup, u_lst, u_callP, u_call, u_b, u_chain, u_andV, u_addI, u_subI, u_mulI, u_divI, u_modI, u_powI, u_cmpI, u_eqI, u_eqS, u_eqB, u_abs, u_intI, u_intB, u_newT, u_newF, u_isN, u_notN, wVar, List.set_cons_zero, List.set_cons_succ, List.getElem?_cons_zero, List.getElem?_cons_succ, List.length_cons, List.length_nil, u_lc, u_for, u_r1, u_r2, u_r3, u_num, u_notV, u_yes, u_w0, u_w1, u_dput, u_get2, u_dget, u_prop, u_fld, u_setF, u_make, u_makeS, u_met, u_calO, u_orT, u_tupIt, u_dc, u_maxDd, u_dnew, u_tupi, ix_p0, ix_p1, wSl, woNone, woSome]
    refine len_of rfl ?_
    simp only [List.map_cons, List.map_nil, List.length_cons, List.length_nil, u_asg, u_gN, u_ret, u_retN, u_skip, u_expr, u_ifs, u_c, u_op, u_neg, u_test, u_and, u_or, u_not, u_if, u_nil, u_cons, u_tup, u_lst, u_callP, u_call, u_b, u_chain, u_andV, u_addI, u_subI, u_mulI, u_divI, u_modI, u_powI, u_cmpI, u_eqI, u_eqS, u_eqB, u_abs, u_intI, u_intB, u_newT, u_newF, u_isN, u_notN, wVar, List.set_cons_zero, List.set_cons_succ, List.getElem?_cons_zero, List.getElem?_cons_succ, List.length_cons, List.length_nil, u_lc, u_for, u_r1, u_r2, u_r3, u_num, u_notV, u_yes, u_w0, u_w1, u_dput, u_get2, u_dget, u_prop, u_fld, u_setF, u_make, u_makeS, u_met, u_calO, u_orT, u_tupIt, u_dc, u_maxDd, u_dnew, u_tupi, ix_p0, ix_p1, wSl, woNone, woSome]
    rw [if_neg (by decide)]
    rw [u_seq]
    simp only [u_asg, u_gN, u_ret, u_retN, u_skip, u_expr, u_ifs, u_c, u_op, u_neg, u_test, u_and, u_or, u_not, u_if, u_nil, u_cons, u_tup, u_lst, u_callP, u_call, u_b, u_chain, u_andV, u_addI, u_subI, u_mulI, u_divI, u_modI, u_powI, u_cmpI, u_eqI, u_eqS, u_eqB, u_abs, u_intI, u_intB, u_newT, u_newF, u_isN, u_notN, wVar, List.set_cons_zero, List.set_cons_succ, List.getElem?_cons_zero, List.getElem?_cons_succ, List.length_cons, List.length_nil, u_lc, u_for, u_r1, u_r2, u_r3, u_num, u_notV, u_yes, u_w0, u_w1, u_dput, u_get2, u_dget, u_prop, u_fld, u_setF, u_make, u_makeS, u_met, u_calO, u_orT, u_tupIt, u_dc, u_maxDd, u_dnew, u_tupi, ix_p0, ix_p1, wSl, woNone, woSome]
    refine len_of rfl ?_
    simp only [List.map_cons, List.map_nil, List.length_cons, List.length_nil, u_asg, u_gN, u_ret, u_retN, u_skip, u_expr, u_ifs, u_c, u_op, u_neg, u_test, u_and, u_or, u_not, u_if, u_nil, u_cons, u_tup, u_lst, u_callP, u_call, u_b, u_chain, u_andV, u_addI, u_subI, u_mulI, u_divI, u_modI, u_powI, u_cmpI, u_eqI, u_eqS, u_eqB, u_abs, u_intI, u_intB, u_newT, u_newF, u_isN, u_notN, wVar, List.set_cons_zero, List.set_cons_succ, List.getElem?_cons_zero, List.getElem?_cons_succ, List.length_cons, List.length_nil, u_lc, u_for, u_r1, u_r2, u_r3, u_num, u_notV, u_yes, u_w0, u_w1, u_dput, u_get2, u_dget, u_prop, u_fld, u_setF, u_make, u_makeS, u_met, u_calO, u_orT, u_tupIt, u_dc, u_maxDd, u_dnew, u_tupi, ix_p0, ix_p1, wSl, woNone, woSome]
    rw [if_neg (by decide)]
    rw [u_seq]
    simp only [u_asg, u_gN, u_ret, u_retN, u_skip, u_expr, u_ifs, u_c, u_op, u_neg, u_test, u_and, u_or, u_not, u_if, u_nil, u_cons, u_tup, u_lst, u_callP, u_call, u_b, u_chain, u_andV, u_addI, u_subI, u_mulI, u_divI, u_modI, u_powI, u_cmpI, u_eqI, u_eqS, u_eqB, u_abs, u_intI, u_intB, u_newT, u_newF, u_isN, u_notN, wVar, List.set_cons_zero, List.set_cons_succ, List.getElem?_cons_zero, List.getElem?_cons_succ, List.length_cons, List.length_nil, u_lc, u_for, u_r1, u_r2, u_r3, u_num, u_notV, u_yes, u_w0, u_w1, u_dput, u_get2, u_dget, u_prop, u_fld, u_setF, u_make, u_makeS, u_met, u_calO, u_orT, u_tupIt, u_dc, u_maxDd, u_dnew, u_tupi, ix_p0, ix_p1, wSl, woNone, woSome]
    refine len_of rfl ?_
    simp only [List.map_cons, List.map_nil, List.length_cons, List.length_nil, u_asg, u_gN, u_ret, u_retN, u_skip, u_expr, u_ifs, u_c, u_op, u_neg, u_test, u_and, u_or, u_not, u_if, u_nil, u_cons, u_tup, u_lst, u_callP, u_call, u_b, u_chain, u_andV, u_addI, u_subI, u_mulI, u_divI, u_modI, u_powI, u_cmpI, u_eqI, u_eqS, u_eqB, u_abs, u_intI, u_intB, u_newT, u_newF, u_isN, u_notN, wVar, List.set_cons_zero, List.set_cons_succ, List.getElem?_cons_zero, List.getElem?_cons_succ, List.length_cons, List.length_nil, u_lc, u_for, u_r1, u_r2, u_r3, u_num, u_notV, u_yes, u_w0, u_w1, u_dput, u_get2, u_dget, u_prop, u_fld, u_setF, u_make, u_makeS, u_met, u_calO, u_orT, u_tupIt, u_dc, u_maxDd, u_dnew, u_tupi, ix_p0, ix_p1, wSl, woNone, woSome]
    rw [if_neg (by decide)]
    rw [u_seq]
    simp only [u_asg, u_gN, u_ret, u_retN, u_skip, u_expr, u_ifs, u_c, u_op, u_neg, u_test, u_and, u_or, u_not, u_if, u_nil, u_cons, u_tup, u_lst, u_callP, u_call, u_b, u_chain, u_andV, u_addI, u_subI, u_mulI, u_divI, u_modI, u_powI, u_cmpI, u_eqI, u_eqS, u_eqB, u_abs, u_intI, u_intB, u_newT, u_newF, u_isN, u_notN, wVar, List.set_cons_zero, List.set_cons_succ, List.getElem?_cons_zero, List.getElem?_cons_succ, List.length_cons, List.length_nil, u_lc, u_for, u_r1, u_r2, u_r3, u_num, u_notV, u_yes, u_w0, u_w1, u_dput, u_get2, u_dget, u_prop, u_fld, u_setF, u_make, u_makeS, u_met, u_calO, u_orT, u_tupIt, u_dc, u_maxDd, u_dnew, u_tupi, ix_p0, ix_p1, wSl, woNone, woSome]
    refine len_of rfl ?_
    simp only [List.map_cons, List.map_nil, List.length_cons, List.length_nil, u_asg, u_gN, u_ret, u_retN, u_skip, u_expr, u_ifs, u_c, u_op, u_neg, u_test, u_and, u_or, u_not, u_if, u_nil, u_cons, u_tup, u_lst, u_callP, u_call, u_b, u_chain, u_andV, u_addI, u_subI, u_mulI, u_divI, u_modI, u_powI, u_cmpI, u_eqI, u_eqS, u_eqB, u_abs, u_intI, u_intB, u_newT, u_newF, u_isN, u_notN, wVar, List.set_cons_zero, List.set_cons_succ, List.getElem?_cons_zero, List.getElem?_cons_succ, List.length_cons, List.length_nil, u_lc, u_for, u_r1, u_r2, u_r3, u_num, u_notV, u_yes, u_w0, u_w1, u_dput, u_get2, u_dget, u_prop, u_fld, u_setF, u_make, u_makeS, u_met, u_calO, u_orT, u_tupIt, u_dc, u_maxDd, u_dnew, u_tupi, ix_p0, ix_p1, wSl, woNone, woSome]
    rw [if_neg (by decide)]
    try simp only [u_asg, u_gN, u_ret, u_retN, u_skip, u_expr, u_ifs, u_c, u_op, u_neg, u_test, u_and, u_or, u_not, u_if, u_nil, u_cons, u_tup, u_lst, u_callP, u_call, u_b, u_chain, u_andV, u_addI, u_subI, u_mulI, u_divI, u_modI, u_powI, u_cmpI, u_eqI, u_eqS, u_eqB, u_abs, u_intI, u_intB, u_newT, u_newF, u_isN, u_notN, wVar, List.set_cons_zero, List.set_cons_succ, List.getElem?_cons_zero, List.getElem?_cons_succ, List.length_cons, List.length_nil, u_lc, u_for, u_r1, u_r2, u_r3, u_num, u_notV, u_yes, u_w0, u_w1, u_dput, u_get2, u_dget, u_prop, u_fld, u_setF, u_make, u_makeS, u_met, u_calO, u_orT, u_tupIt, u_dc, u_maxDd, u_dnew, u_tupi, ix_p0, ix_p1, wSl, woNone, woSome]
    rw [u_ixLd (show atI _ 0 = some (pairD a) from rfl)]
    rw [u_ixLd (show atI _ 1 = some (pairD b) from rfl)]
    rw [u_ixLd (show atI _ 2 = some (pairD c) from rfl)]
    rw [u_ixLd (show atI _ 3 = some (pairD d) from rfl)]
    rw [u_ixLd (show atI _ 4 = some (pairD e) from rfl)]
    rw [u_ixLd (show atI _ 5 = some (pairD f) from rfl)]
    exact go
end K26
namespace K26
open PySem PySem.Spec L2 C8 DL PK PL PQ PN PB F4 PR
theorem at_ref {t : Addr} {es : List Int} {v : Int} {h : AH} {Q : KD} (e : h t = some (.lst (es.map D.int))) (h0 : 0 ≤ v) (h1 : v < es.length) (q : ∀ u ∈ es, Q (.int u) h) : dIx (.ref t) (.int v) h Q := by
  obtain ⟨k, rfl⟩ := Int.eq_ofNat_of_zero_le h0
  have lk : k < es.length := by omega
  rw [u_ixRd e (show atI (es.map D.int) (k : Nat) = some (.int es[k]) by rw [atI_nat (by rw [List.length_map]; exact lk), List.getElem?_map, List.getElem?_eq_getElem lk]; rfl)]
  exact q _ (List.getElem_mem lk)
theorem p__law_capacity (z : Ad) : ∀ ds h Q X, S__law_capacity z ds h Q X → w__law_capacity z (endsD Q X) (startD 4 ds) h := by
  rintro ds h Q X ⟨n, p, xs, rfl, I, hn, hl, hx, q⟩
  show w__law_capacity z (endsD Q X) [some (.ref p), some (.lst (xs.map .int)), none, none] h
  replace I := Inv0.start I
  have big := DL.big_size
  unfold w__law_capacity
  rw [u_seq, u_asg, u_lst]
  simp only [u_callP, u_cons, u_nil, u_op, u_c]
  rw [u_var rfl]
  refine ⟨rfl, draw_go I (by omega) (div_ok (by decide) (by decide)) fun v1 o a1 b1 I _ => ?_⟩
  generalize up _ p o = g1 at I ⊢
  rw [u_addI, u_var rfl]
  refine ⟨rfl, draw_go I (by omega) (div_ok (by decide) (by decide)) fun v2 o a2 b2 I _ => ?_⟩
  generalize up _ p o = g1 at I ⊢
  rw [u_addI]
  refine ⟨pw6, ?_⟩
  rw [show (10 : Int) ^ Int.toNat 6 = 1000000 from by decide]
  try dsimp only
  rw [u_var rfl]
  refine ⟨rfl, draw_go I (by omega) (div_ok (by decide) (by decide)) fun v3 o a3 b3 I _ => ?_⟩
  generalize up _ p o = g1 at I ⊢
  rw [u_addI]
  refine ⟨pw30, ?_⟩
  generalize hM : (10 : Int) ^ Int.toNat 30 = M
  have hM : (10 : Int) ^ 30 = M := hM
  rw [hM] at q
  have m1 : 1000003 ≤ M := by rw [← hM]; decide
  have m2 : M ≤ 10 ^ 30 := by rw [hM]; exact Int.le_refl _
  refine ⟨sz_le (show 4 ≤ 100000 by decide), fun t ht => ?_⟩
  have t0 := I.fresh ht
  replace I := I.new (o := .lst [.int (1 + v1), .int (1 + v2), .int (1000000 + v3), .int M]) ht
  have hg : (up g1 t (.lst [.int (1 + v1), .int (1 + v2), .int (1000000 + v3), .int M])) t = some (.lst [.int (1 + v1), .int (1 + v2), .int (1000000 + v3), .int M]) := up_same
  try dsimp only
  rw [u_gN]
  dsimp only [List.set_cons_zero, List.set_cons_succ]
  generalize up g1 t _ = g1 at I hg ⊢
  rw [u_seq]
  simp only [wMethT, u_expr, u_callP, u_cons, u_nil, u_op, u_c]
  rw [u_var rfl]
  refine ⟨⟨_, lst_ref hg⟩, ?_⟩
  try dsimp only
  rw [u_var rfl]
  refine ⟨pw30, ?_⟩
  rw [show (10 : Int) ^ Int.toNat 30 = M from hM]
  refine ⟨rfl, draw_go I (by omega) (div30 (by omega) m2) fun v4 o a4 b4 I _ => ?_⟩
  have hg : (up g1 p o) t = some (.lst [.int (1 + v1), .int (1 + v2), .int (1000000 + v3), .int M]) := by rw [up_ne t0.2]; exact hg
  generalize up g1 p o = g1 at I hg ⊢
  rw [u_addI]
  refine ⟨t, _, _, rfl, rfl, hg, Nat.lt_of_lt_of_le (show 4 < 100000 by decide) big, ?_⟩
  replace I := I.put (o := .lst ([.int (1 + v1), .int (1 + v2), .int (1000000 + v3), .int M] ++ [.int (1 + v4)])) t0.1
  have hg : (up g1 t (.lst ([.int (1 + v1), .int (1 + v2), .int (1000000 + v3), .int M] ++ [.int (1 + v4)]))) t = some (.lst [.int (1 + v1), .int (1 + v2), .int (1000000 + v3), .int M, .int (1 + v4)]) := up_same
  generalize up g1 t _ = g1 at I hg ⊢
  try dsimp only
  rw [u_seq, u_asg]
  simp only [u_callP, u_cons, u_nil, u_op, u_c, u_lst, u_b]
  refine ⟨sz_le (show 1 ≤ 100000 by decide), ?_⟩
  rw [u_newF, u_var rfl]
  refine addL_go (by simp; omega) ?_
  try dsimp only
  rw [u_var rfl]
  try dsimp only
  rw [u_var rfl]
  refine len_of (xs := xs.map D.int) rfl ?_
  try dsimp only
  rw [u_addI, List.length_map]
  refine ⟨rfl, draw_go I (by omega) (div_ok (by omega) (by omega)) fun v5 o a5 b5 I _ => ?_⟩
  have hg : (up g1 p o) t = some (.lst [.int (1 + v1), .int (1 + v2), .int (1000000 + v3), .int M, .int (1 + v4)]) := by rw [up_ne t0.2]; exact hg
  generalize up g1 p o = g1 at I hg ⊢
  refine at_some (es := 1 :: xs) a5 (by rw [List.length_cons]; omega) fun u hu => ?_
  have hu : 0 ≤ u ∧ u ≤ 1000000 := by
    rcases List.mem_cons.mp hu with rfl | hu
    · exact ⟨by decide, by decide⟩
    · exact hx u hu
  rw [u_gN]
  dsimp only [List.set_cons_zero, List.set_cons_succ]
  rw [u_seq]
  simp only [wMethT, u_expr, u_callP, u_cons, u_nil, u_op, u_c, u_b]
  rw [u_var rfl]
  refine ⟨⟨_, lst_ref hg⟩, ?_⟩
  try dsimp only
  rw [u_var rfl]
  try dsimp only
  rw [u_var rfl]
  refine ⟨rfl, draw_go I (by omega) (div_ok (by decide) (by decide)) fun v6 o a6 b6 I _ => ?_⟩
  have hg : (up g1 p o) t = some (.lst [.int (1 + v1), .int (1 + v2), .int (1000000 + v3), .int M, .int (1 + v4)]) := by rw [up_ne t0.2]; exact hg
  generalize up g1 p o = g1 at I hg ⊢
  rw [u_addI]
  try dsimp only
  rw [u_subI]
  unfold dMax2
  try dsimp only
  generalize hw : (if u + v6 - 1 > 1 then u + v6 - 1 else 1) = w
  have w1 : 1 ≤ w ∧ w ≤ 1000003 := by rw [← hw]; split <;> omega
  refine ⟨t, _, _, rfl, rfl, hg, Nat.lt_of_lt_of_le (show 5 < 100000 by decide) big, ?_⟩
  replace I := I.put (o := .lst ([.int (1 + v1), .int (1 + v2), .int (1000000 + v3), .int M, .int (1 + v4)] ++ [.int w])) t0.1
  have hg : (up g1 t (.lst ([.int (1 + v1), .int (1 + v2), .int (1000000 + v3), .int M, .int (1 + v4)] ++ [.int w]))) t = some (.lst (([1 + v1, 1 + v2, 1000000 + v3, M, 1 + v4, w] : List Int).map D.int)) := up_same
  generalize up g1 t _ = g1 at I hg ⊢
  try dsimp only
  simp only [u_ret, u_callP, u_cons, u_nil, u_op, u_c]
  rw [u_var rfl]
  try dsimp only
  rw [u_var rfl]
  refine ⟨rfl, draw_go I (by omega) (div_ok (by decide) (by decide)) fun v7 o a7 b7 I _ => ?_⟩
  have hg : (up g1 p o) t = some (.lst (([1 + v1, 1 + v2, 1000000 + v3, M, 1 + v4, w] : List Int).map D.int)) := by rw [up_ne t0.2]; exact hg
  generalize up g1 p o = g1 at I hg ⊢
  refine at_ref hg a7 (by simpa using b7) fun c hc => ?_
  have hc : 1 ≤ c ∧ c ≤ M := by
    have : c = 1 + v1 ∨ c = 1 + v2 ∨ c = 1000000 + v3 ∨ c = M ∨ c = 1 + v4 ∨ c = w := by simpa using hc
    omega
  obtain ⟨o', s1, s2⟩ := I.sub
  exact fin_sub s2 (q c o' hc.1 hc.2 (s1.mono (by omega)))
theorem p__law_no_capacity (z : Ad) : ∀ ds h Q X, S__law_no_capacity z ds h Q X → w__law_no_capacity z (endsD Q X) (startD 2 ds) h := by
  rintro ds h Q X ⟨n, p, rfl, I, hn, q⟩
  show w__law_no_capacity z (endsD Q X) [some (.ref p), none] h
  replace I := Inv0.start I
  unfold w__law_no_capacity
  rw [u_seq, u_asg, u_lst]
  simp only [u_cons, u_nil, u_c, u_op, u_neg]
  refine ⟨pw30, ?_⟩
  try dsimp only
  generalize hM : (10 : Int) ^ Int.toNat 30 = M
  have hM : (10 : Int) ^ 30 = M := hM
  rw [u_addI]
  try dsimp only
  rw [u_tup]
  simp only [u_cons, u_nil, u_c]
  refine ⟨sz_le (show 1 ≤ 100000 by decide), ?_⟩
  try dsimp only
  rw [u_lst]
  simp only [u_cons, u_nil, u_c]
  refine ⟨sz_le (show 1 ≤ 100000 by decide), ?_⟩
  rw [u_newF]
  unfold wDnewF
  refine ⟨pw59, ?_⟩
  try dsimp only
  generalize hP : (10 : Int) ^ Int.toNat 59 = big
  have hP : (10 : Int) ^ 59 = big := hP
  rw [u_tup]
  simp only [u_cons, u_nil, u_c, u_lst]
  refine ⟨sz_le (show 1 ≤ 100000 by decide), ?_⟩
  rw [u_newF]
  refine ⟨sz_le (show 1 ≤ 100000 by decide), ?_⟩
  refine ⟨sz_le (show 13 ≤ 100000 by decide), ?_⟩
  rw [u_newF, u_gN]
  dsimp only [List.set_cons_zero, List.set_cons_succ]
  simp only [u_ret, u_op, u_callP, u_cons, u_nil, u_c]
  rw [u_var rfl]
  try dsimp only
  rw [u_var rfl]
  refine ⟨rfl, draw_go I (by omega) (div_ok (by decide) (by decide)) fun v o a1 b1 I _ => ?_⟩
  obtain ⟨o', s1, s2⟩ := I.sub
  have hB : ∀ i : Int, (i < 1 ∨ M < i) → capB (.int i) = false := fun i hi => by
    unfold capB btw
    rw [hM]
    dsimp only
    rcases hi with hi | hi
    · rw [decide_eq_false (show ¬((1 : Int) ≤ i) by omega)]; rfl
    · rw [decide_eq_false (show ¬(i ≤ M) by omega), Bool.and_false]
  have hI : ∀ i : Int, i.natAbs < 2 ^ 210 → Rq (.int i) 2 1000 := fun i hi => (rq_int (j := 210) (by decide) (by decide) hi).up (by decide) (by decide)
  have m0 : M.natAbs < 2 ^ 110 := by rw [← hM]; decide
  have hL1 : Rq (.lst [.int 1]) 1 300 := (rq_lst (k := 0) (n := 65) fun x hx => by
    obtain rfl := List.mem_singleton.mp hx
    exact rq_int (j := 64) (by decide) (by decide) (by decide)).up (by decide) (by decide)
  obtain ⟨x, hx, ox⟩ : ∃ x, atI [D.int 0, D.int (-1), D.int (M + 1), D.bl true, D.bl false, D.non, D.str "1", D.tup [.int 1], D.lst [.int 2], D.dK [], D.int big, D.str "", D.tup [.lst [.int 1]]] v = some x ∧ OddC x := by
    rcases (show v = 0 ∨ v = 1 ∨ v = 2 ∨ v = 3 ∨ v = 4 ∨ v = 5 ∨ v = 6 ∨ v = 7 ∨ v = 8 ∨ v = 9 ∨ v = 10 ∨ v = 11 ∨ v = 12 by omega) with rfl | rfl | rfl | rfl | rfl | rfl | rfl | rfl | rfl | rfl | rfl | rfl | rfl
    · exact ⟨_, rfl, hB _ (.inl (by decide)), fun h => ⟨_, rfl⟩, hI _ (by decide)⟩
    · exact ⟨_, rfl, hB _ (.inl (by decide)), fun h => ⟨_, rfl⟩, hI _ (by decide)⟩
    · exact ⟨_, rfl, hB _ (.inr (by omega)), fun h => ⟨_, rfl⟩, hI _ (by omega)⟩
    · exact ⟨_, rfl, rfl, fun h => ⟨_, rfl⟩, (rq_bl _).up (by decide) (by decide)⟩
    · exact ⟨_, rfl, rfl, fun h => ⟨_, rfl⟩, (rq_bl _).up (by decide) (by decide)⟩
    · exact ⟨_, rfl, rfl, fun h => ⟨_, rfl⟩, rq_non.up (by decide) (by decide)⟩
    · exact ⟨_, rfl, rfl, fun h => ⟨_, rfl⟩, (rq_str (n := 300) (by rw [PyData.shown]; decide +kernel)).up (by decide) (by decide)⟩
    · exact ⟨_, rfl, rfl, fun h => ⟨_, rfl⟩, (rq_tup (k := 0) (n := 65) fun x hx => by
        obtain rfl := List.mem_singleton.mp hx
        exact rq_int (j := 64) (by decide) (by decide) (by decide)).up (by decide) (by decide)⟩
    · exact ⟨_, rfl, rfl, fun h => ⟨_, rfl⟩, (rq_lst (k := 0) (n := 65) fun x hx => by
        obtain rfl := List.mem_singleton.mp hx
        exact rq_int (j := 64) (by decide) (by decide) (by decide)).up (by decide) (by decide)⟩
    · exact ⟨_, rfl, rfl, fun h => ⟨_, rfl⟩, rq_dic.up (by decide) (by decide)⟩
    · exact ⟨_, rfl, hB _ (.inr (by rw [← hM, ← hP]; decide)), fun h => ⟨_, rfl⟩, hI _ (by rw [← hP]; decide)⟩
    · exact ⟨_, rfl, rfl, fun h => ⟨_, rfl⟩, (rq_str (n := 300) (by rw [PyData.shown]; decide +kernel)).up (by decide) (by decide)⟩
    · exact ⟨_, rfl, rfl, fun h => ⟨_, rfl⟩, (rq_tup (k := 1) (n := 300) fun x hx => by
        obtain rfl := List.mem_singleton.mp hx
        exact hL1).up (by decide) (by decide)⟩
  rw [u_ixLd hx]
  exact fin_sub s2 (q x o' ox s1)
end K26
namespace PN
open PySem PySem.Spec L2 C8 DL PK PL PQ
/-! equal ledgers, seen by a look at each key -/
theorem val_none {es : Prs} {k : Int} (h : ¬k ∈ es.map (·.1)) : valD (toK es) (Sum.inl k) = none := by
  rw [valD_toK, List.find?_eq_none.mpr, Option.map_none]
  intro e he z
  exact h (List.mem_map.mpr ⟨e, he, of_decide_eq_true z⟩)
theorem hit_toK {fs : Prs} : ∀ gs : Prs, ∃ r, HitD (toK fs) (toK gs) r ∧ (r = true ↔ ∀ e ∈ gs, e.1 ∈ fs.map (·.1) ∧ getI fs e.1 = e.2)
  | [] => ⟨true, .nil, by simp⟩
  | e :: gs => by
    obtain ⟨r, h1, h2⟩ := hit_toK gs
    by_cases c : e.1 ∈ fs.map (·.1)
    · refine ⟨_, .hit (val_some c) h1, ?_⟩
      rw [Bool.and_eq_true, decide_eq_true_iff, h2]
      constructor
      · rintro ⟨a, b⟩ x hx
        rcases List.mem_cons.mp hx with rfl | hx
        · exact ⟨c, a.symm⟩
        · exact b x hx
      · intro a
        exact ⟨(a e (List.mem_cons_self ..)).2.symm, fun x hx => a x (List.mem_cons_of_mem _ hx)⟩
    · refine ⟨false, .miss (val_none c), ?_⟩
      constructor
      · intro z; cases z
      · intro a; exact absurd (a e (List.mem_cons_self ..)).1 c
theorem sub_std : ∀ {fs gs : Prs}, gs.Pairwise (fun x y => x.1 < y.1) → fs.Pairwise (fun x y => x.1 < y.1) → (∀ e ∈ gs, e ∈ fs) → gs.Sublist fs
  | _, [], _, _, _ => List.nil_sublist _
  | [], g :: gs, _, _, h => by cases h g (List.mem_cons_self ..)
  | f :: fs, g :: gs, pg, pf, h => by
    rw [List.pairwise_cons] at pg pf
    by_cases c : g = f
    · subst c
      refine .cons_cons _ (sub_std pg.2 pf.2 fun e he => ?_)
      rcases List.mem_cons.mp (h e (List.mem_cons_of_mem _ he)) with rfl | z
      · exact absurd (pg.1 e he) (Int.lt_irrefl _)
      · exact z
    · have gf : g ∈ fs := by
        rcases List.mem_cons.mp (h g (List.mem_cons_self ..)) with z | z
        · exact absurd z c
        · exact z
      have l := pf.1 g gf
      refine .cons _ (sub_std (List.pairwise_cons.mpr pg) pf.2 fun e he => ?_)
      rcases List.mem_cons.mp (h e he) with rfl | z
      · rcases List.mem_cons.mp he with rfl | he
        · exact absurd rfl c
        · have := pg.1 e he; omega
      · exact z
theorem hit_same {gs1 gs2 : Prs} (s1 : Std gs1) (s2 : Std gs2) : ∃ r, HitD (toK gs2) (toK gs1) r ∧ ((toK gs1).length == (toK gs2).length && r) = decide (gs1 = gs2) := by
  obtain ⟨r, h1, h2⟩ := hit_toK (fs := gs2) gs1
  refine ⟨r, h1, ?_⟩
  rw [toK_len, toK_len]
  rw [Bool.eq_iff_iff, Bool.and_eq_true, beq_iff_eq, h2, decide_eq_true_iff]
  constructor
  · rintro ⟨l, m⟩
    refine (sub_std s1.1 s2.1 fun e he => ?_).eq_of_length l
    obtain ⟨m1, m2⟩ := m e he
    obtain ⟨y, hy, hy2⟩ := List.mem_map.mp m1
    have : getI gs2 y.1 = y.2 := getI_mem (pw_nodup s2.1) hy
    rw [hy2, m2] at this
    have : e = y := Prod.ext hy2.symm this
    rw [this]; exact hy
  · rintro rfl
    exact ⟨rfl, fun e he => ⟨List.mem_map.mpr ⟨e, he, rfl⟩, getI_mem (pw_nodup s2.1) he⟩⟩
theorem p_Ledger___eq__ (z : Ad) : ∀ ds h Q X, S_Ledger___eq__ z ds h Q X → w_Ledger___eq__ z (endsD Q X) (startD 2 ds) h := by
  rintro ds h Q X ⟨es, fs, rfl, s1, s2, q⟩
  show w_Ledger___eq__ z (endsD Q X) [some (ledD z.Ledger es), some (ledD z.Ledger fs)] h
  unfold w_Ledger___eq__
  simp only [u_fld, u_asg, u_gN, u_ret, u_retN, u_skip, u_expr, u_ifs, u_c, u_op, u_neg, u_test, u_and, u_or, u_not, u_if, u_nil, u_cons, u_tup, u_lst, u_callP, u_call, u_b, u_chain, u_andV, u_addI, u_subI, u_mulI, u_divI, u_modI, u_powI, u_cmpI, u_eqI, u_eqS, u_eqB, u_abs, u_intI, u_intB, u_newT, u_newF, u_isN, u_notN, wVar, List.set_cons_zero, List.set_cons_succ, List.getElem?_cons_zero, List.getElem?_cons_succ, List.length_cons, List.length_nil, u_lc, u_for, u_r1, u_r2, u_r3, u_num, u_notV, u_yes, u_w0, u_w1, u_dput, u_get2, u_dget, u_prop, u_fld, u_setF, u_make, u_makeS, u_met, u_calO, u_orT, u_tupIt, u_dc, u_maxDd, u_dnew, u_tupi, ix_p0, ix_p1, wSl, woNone, woSome]
  obtain ⟨r, h1, h2⟩ := hit_same s1 s2
  refine ⟨_, rfl, ledD_isI, ?_⟩
  dsimp only
  rw [if_pos rfl]
  refine ⟨_, _, rfl, rfl, _, _, rfl, rfl, toK es, toK fs, r, rfl, rfl, h1, ?_⟩
  rw [h2]
  exact fin_of q
end PN
namespace K26
open PySem PySem.Spec L2 C8 DL PK PL PQ PN PB F4 PR
def negP (es : Prs) : Prs := es.map fun e => (e.1, 0 - e.2)
theorem amt_negP {k : Int} : ∀ {es : Prs}, amt (negP es) k = -amt es k
  | [] => rfl
  | e :: es => by
    show amt ((e.1, 0 - e.2) :: negP es) k = _
    rw [amt_cons, amt_cons, amt_negP]
    by_cases c : e.1 = k
    · rw [if_pos c, if_pos c]; dsimp only; omega
    · rw [if_neg c, if_neg c]; omega
theorem neg_rws {es : Prs} (r : Rws es) : Rws (negP es) := by
  refine ⟨fun e he => ?_, by unfold negP; rw [List.length_map]; exact r.len, fun e he => ?_⟩
  · obtain ⟨y, hy, rfl⟩ := List.mem_map.mp he
    exact r.inr y hy
  · obtain ⟨y, hy, rfl⟩ := List.mem_map.mp he
    have := r.sm y hy
    show (0 - y.2).natAbs < _
    omega
theorem amt_sm {K : Nat} (k0 : 0 < K) {rows : Prs} (h : ∀ e ∈ rows, e.2.natAbs < K) (k : Int) : (amt rows k).natAbs ≤ rows.length * K := by
  have := sum_sm (K := K) (xs := rows.map fun e => if e.1 = k then e.2 else 0) fun x hx => by
    obtain ⟨e, he, rfl⟩ := List.mem_map.mp hx
    split
    · exact h e he
    · exact k0
  rw [List.length_map] at this
  exact this
theorem led_sm {gs rows : Prs} (l : Led gs (amt rows)) (hl : rows.length ≤ 12) (h : ∀ e ∈ rows, e.2.natAbs < 2 ^ 100) : ∀ e ∈ gs, e.2.natAbs < 2 ^ 110 := fun e he => by
  have h1 := ((l.mem e.1 e.2).mp he).1
  have h2 := amt_sm (by decide) h e.1
  have h3 := Nat.mul_le_mul_right (2 ^ 100) hl
  rw [← h1] at h2
  omega
theorem mul_sm {a b : Int} (ha : a.natAbs < 2 ^ 200) (hb : b.natAbs < 2 ^ 200) : MulOk a b := .inr (.inr (by
  have h1 := lg_lt ha (by decide)
  have h2 := lg_lt hb (by decide)
  omega))
theorem rp_pl {es : Prs} (hr : InR es) (hl : es.length ≤ 12) (h : ∀ e ∈ es, e.2.natAbs < 2 ^ 210) : Rp (.tup (es.map pairD)) 2 (3 + 12 * 502) := rp_prs hl fun e he => ⟨by have := hr e he; omega, h e he⟩
theorem neg_comp {a0 a1 a2 a3 a4 a5 a6 a7 a8 a9 a10 : Option D} {j : Nat} {rows : Prs} {h : AH} {Q : KD} {X : KX} (hl : rows.length ≤ 1000) (e : ([a0, a1, a2, a3, a4, a5, a6, a7, a8, a9, a10, none, none, none] : EnvD)[j]? = some (some (.lst (rows.map pairD)))) (q : Q (.lst ((negP rows).map pairD)) h) :
    wLc false (iSeq (wVar j)) (gT 2 (gsN [11, 12])) wYes (wTup (wCons (wVar 11) (wCons (wOp dSub (wC (.int 0)) (wVar 12)) wNil))) [11, 12] [a0, a1, a2, a3, a4, a5, a6, a7, a8, a9, a10, none, none, none] h Q X := by
  rw [u_lc, u_seqi, u_var e]
  try dsimp only
  intro t ht
  refine comp_map pairD (fun e => pairD (e.1, 0 - e.2)) rows (fun acc => trivial) (sz_le (by omega)) (fun x acc K hx la k => ?_) ?_
  · refine ⟨_, rfl, rfl, _, _, rfl, _, _, rfl, rfl, ?_⟩
    try simp only [wYes, u_asg, u_gN, u_ret, u_retN, u_skip, u_expr, u_ifs, u_c, u_op, u_neg, u_test, u_and, u_or, u_not, u_if, u_nil, u_cons, u_tup, u_lst, u_callP, u_call, u_b, u_chain, u_andV, u_addI, u_subI, u_mulI, u_divI, u_modI, u_powI, u_cmpI, u_eqI, u_eqS, u_eqB, u_abs, u_intI, u_intB, u_newT, u_newF, u_isN, u_notN, wVar, List.set_cons_zero, List.set_cons_succ, List.getElem?_cons_zero, List.getElem?_cons_succ, List.length_cons, List.length_nil, u_lc, u_for, u_r1, u_r2, u_r3, u_num, u_notV, u_yes, u_w0, u_w1, u_dput, u_get2, u_dget, u_prop, u_fld, u_setF, u_make, u_makeS, u_met, u_calO, u_orT, u_tupIt, u_dc, u_maxDd, u_dnew, u_tupi, ix_p0, ix_p1, wSl, woNone, woSome]
    try rw [if_pos trivial]
    exact ⟨sz_le (show 2 ≤ 100000 by decide), acc, up_same, la, by rw [up_up]; exact k⟩
  have em : (rows.map fun e => pairD (e.1, 0 - e.2)) = (negP rows).map pairD := by
    unfold negP; rw [List.map_map]; rfl
  rw [em]
  exact endF ht q
theorem mul_comp {a0 a1 a2 a3 a4 a5 a6 a7 a8 a9 a10 : Option D} {n : Int} {rows : Prs} {h : AH} {Q : KD} {X : KX} (hl : rows.length ≤ 1000) (hm : ∀ e ∈ rows, MulOk e.2 n) (e : a3 = some (.lst (rows.map pairD))) (e2 : a7 = some (.int n)) (q : Q (.lst ((mulP n rows).map pairD)) h) :
    wLc false (iSeq (wVar 3)) (gT 2 (gsN [11, 12])) wYes (wTup (wCons (wVar 11) (wCons (wOp (dMul false) (wVar 12) (wVar 7)) wNil))) [11, 12] [a0, a1, a2, a3, a4, a5, a6, a7, a8, a9, a10, none, none, none] h Q X := by
  subst e e2
  rw [u_lc, u_seqi, u_var rfl]
  try dsimp only
  intro t ht
  refine comp_map pairD (fun e => pairD (e.1, e.2 * n)) rows (fun acc => trivial) (sz_le (by omega)) (fun x acc K hx la k => ?_) ?_
  · refine ⟨_, rfl, rfl, _, _, rfl, _, _, rfl, rfl, ?_⟩
    try simp only [wYes, u_asg, u_gN, u_ret, u_retN, u_skip, u_expr, u_ifs, u_c, u_op, u_neg, u_test, u_and, u_or, u_not, u_if, u_nil, u_cons, u_tup, u_lst, u_callP, u_call, u_b, u_chain, u_andV, u_addI, u_subI, u_mulI, u_divI, u_modI, u_powI, u_cmpI, u_eqI, u_eqS, u_eqB, u_abs, u_intI, u_intB, u_newT, u_newF, u_isN, u_notN, wVar, List.set_cons_zero, List.set_cons_succ, List.getElem?_cons_zero, List.getElem?_cons_succ, List.length_cons, List.length_nil, u_lc, u_for, u_r1, u_r2, u_r3, u_num, u_notV, u_yes, u_w0, u_w1, u_dput, u_get2, u_dget, u_prop, u_fld, u_setF, u_make, u_makeS, u_met, u_calO, u_orT, u_tupIt, u_dc, u_maxDd, u_dnew, u_tupi, ix_p0, ix_p1, wSl, woNone, woSome]
    try rw [if_pos trivial]
    exact ⟨hm x hx, sz_le (show 2 ≤ 100000 by decide), acc, up_same, la, by rw [up_up]; exact k⟩
  have em : (rows.map fun e => pairD (e.1, e.2 * n)) = (mulP n rows).map pairD := by
    unfold mulP; rw [List.map_map]; rfl
  rw [em]
  exact endF ht q
theorem led_nil {gs : Prs} {A : Int → Int} (l : Led gs A) (h : ∀ k, A k = 0) : gs = [] := by
  cases gs with
  | nil => rfl
  | cons e es =>
    have m := (l.mem e.1 e.2).mp (List.mem_cons_self ..)
    have := h e.1
    exact absurd (show e.2 = 0 by omega) m.2
theorem p_law (z : Ad) : ∀ ds h Q X, S_law z ds h Q X → w_law z (endsD Q X) (startD 14 ds) h := by
  rintro ds h0 Q X ⟨js, rfl, tb, q⟩
  show w_law z (endsD Q X) [some (.lk (js.map D.int)), none, none, none, none, none, none, none, none, none, none, none, none, none] h0
  have q : ∀ h', fin Q (.bl true) h' := fun h' => fin_of (q h')
  have big := DL.big_size
  unfold w_law
  rw [u_seq, u_asg, u_callP]
  simp only [u_cons, u_nil]
  rw [u_var rfl]
  refine ⟨rfl, js, rfl, fun p o hp r0 => ?_⟩
  have tb : Tb z (up h0 p o) := ⟨sub_up hp _ _ tb.1, sub_up hp _ _ tb.2⟩
  have I : PenAt 0 (up h0 p o) p := ⟨o, up_same, r0⟩
  have zp : z.t0 ≠ p ∧ z.t1 ≠ p := by
    obtain ⟨cs, a, g, rfl, _⟩ := r0
    refine ⟨?_, ?_⟩
    · rintro e; have := tb.1; rw [e, up_same] at this; cases this
    · rintro e; have := tb.2; rw [e, up_same] at this; cases this
  generalize up h0 p o = h at I tb ⊢
  replace I := Inv0.start I
  try dsimp only
  rw [u_gN]
  dsimp only [List.set_cons_zero, List.set_cons_succ]
  refine seq_go (fun ρ h' => True) (fun K k => ?_) (fun ρ h' _ => by rw [u_ret, u_c]; exact q h')
  rw [u_for]
  simp only [u_r1, u_cons, u_nil, u_c]
  refine ⟨by decide, by decide, ?_⟩
  refine loop_go (fun i ρ g => ∃ a2 a3 a4 a5 a6 a7 a8 a9 a10, ρ = [some (.lk (js.map D.int)), some (.ref p), a2, a3, a4, a5, a6, a7, a8, a9, a10, none, none, none] ∧ Inv0 h p (300 * (i : Nat)) g) ⟨_, _, _, _, _, _, _, _, _, rfl, by simpa using I⟩ (fun _ _ _ _ => trivial) ?_ (fun ρ g _ => k _ _ trivial)
  rintro i x _ g K9 hi ⟨a2, a3, a4, a5, a6, a7, a8, a9, a10, rfl, I⟩ k9
  obtain ⟨rfl, li⟩ := intsD_get hi
  have li : i < 4 := li
  rw [u_gN]
  dsimp only [List.set_cons_zero, List.set_cons_succ]
  rw [u_seq]
  simp only [wPar, u_callP, u_cons, u_nil, u_c]
  rw [u_var rfl]
  refine ⟨rfl, _, p, rfl, I.pen, by omega, fun one o r1 po => ?_⟩
  have I := I.draw po
  generalize up g p o = g at I ⊢
  try dsimp only
  rw [u_var rfl]
  refine ⟨rfl, _, p, rfl, I.pen, by omega, fun other o r2 po => ?_⟩
  have I := I.draw po
  generalize up g p o = g at I ⊢
  refine ⟨_, _, rfl, ?_⟩
  try dsimp only [List.set_cons_zero, List.set_cons_succ]
  refine seq_go (fun ρ g => ∃ other : Prs, Rws other ∧ ρ = [some (.lk (js.map D.int)), some (.ref p), some (.int (0 + (i : Nat))), some (.lst (one.map pairD)), some (.lst (other.map pairD)), a5, a6, a7, a8, a9, a10, none, none, none] ∧ Inv0 h p (300 * (i : Nat) + 121) g) (fun K k => ?_) ?_
  · rw [u_ifs, u_test, u_op, u_callP]
    simp only [u_cons, u_nil, u_c]
    rw [u_var rfl]
    refine ⟨rfl, draw_go I (by omega) (div_ok (by decide) (by decide)) fun v o a b I _ => ?_⟩
    generalize up g p o = g at I ⊢
    rw [u_eqI]
    try dsimp only
    by_cases c : v = 0
    · rw [if_pos (decide_eq_true c), u_asg]
      refine neg_comp (by have := r1.len; omega) rfl ?_
      exact k _ _ ⟨_, neg_rws r1, rfl, I.mono (by omega)⟩
    · rw [if_neg (by rw [decide_eq_false c]; decide)]
      exact k _ _ ⟨_, r2, rfl, I.mono (by omega)⟩
  clear r2 I
  clear other
  rintro _ g ⟨other, r2, rfl, I⟩
  have l1 := r1.len
  have l2 := r2.len
  rw [u_seq]
  simp only [wPar, u_callP, u_cons, u_nil, u_c]
  rw [u_var rfl]
  refine ⟨rfl, one, rfl, r1.inr, l1, fun gs g1 g2 g3 => ?_⟩
  try dsimp only
  rw [u_var rfl]
  refine ⟨rfl, other, rfl, r2.inr, l2, fun fs f1 f2 f3 => ?_⟩
  refine ⟨_, _, rfl, ?_⟩
  try dsimp only [List.set_cons_zero, List.set_cons_succ]
  rw [u_seq, u_asg, u_op, u_lst]
  simp only [u_callP, u_cons, u_nil, u_op, u_c, u_neg]
  rw [u_var rfl]
  refine ⟨rfl, draw_go I (by omega) (div_ok (by decide) (by decide)) fun v1 o a b I _ => ?_⟩
  generalize up g p o = g at I ⊢
  rw [u_subI]
  refine ⟨pw20, ?_⟩
  rw [show (10 : Int) ^ Int.toNat 20 = 100000000000000000000 from by decide]
  refine ⟨sz_le (show 5 ≤ 100000 by decide), ?_⟩
  rw [u_newF, u_var rfl]
  refine ⟨rfl, draw_go I (by omega) (div_ok (by decide) (by decide)) fun v2 o a b2 I _ => ?_⟩
  generalize up g p o = g at I ⊢
  refine at_some (es := [0, 1, -1, v1 - 10, 100000000000000000000]) a (by simpa using b2) fun n hn => ?_
  have hnn : n.natAbs < 2 ^ 70 := by
    have : n = 0 ∨ n = 1 ∨ n = -1 ∨ n = v1 - 10 ∨ n = 100000000000000000000 := by simpa using hn
    omega
  have hn : n.natAbs < 2 ^ 200 := by omega
  rw [u_gN]
  dsimp only [List.set_cons_zero, List.set_cons_succ]
  rw [u_seq, u_asg]
  refine neg_comp (by omega) rfl ?_
  have r3 := neg_rws r2
  have l3 := r3.len
  rw [u_gN]
  dsimp only [List.set_cons_zero, List.set_cons_succ]
  rw [u_seq, u_asg, u_lst]
  simp only [u_callP, u_cons, u_nil, u_op, u_c]
  rw [u_var rfl]
  try dsimp only
  rw [u_var rfl]
  refine addL_go (by simp; omega) ?_
  refine ⟨rfl, one ++ other, by rw [List.map_append], by rw [List.length_append]; omega, fun d0 d01 d02 => ?_⟩
  try dsimp only
  rw [u_var rfl]
  try dsimp only
  rw [u_var rfl]
  refine addL_go (by simp; omega) ?_
  refine ⟨rfl, one ++ negP other, by rw [List.map_append], by rw [List.length_append]; omega, fun d1 d11 d12 => ?_⟩
  try dsimp only
  rw [u_var rfl]
  refine ⟨rfl, negP other, rfl, by omega, fun d2 d21 d22 => ?_⟩
  refine ⟨sz_le (show 3 ≤ 100000 by decide), fun t ht => ?_⟩
  have t0 := I.fresh ht
  have I := I.new (o := .lst [.tup (d0.map pairD), .tup (d1.map pairD), .tup (d2.map pairD)]) ht
  have hg : (up g t (.lst [.tup (d0.map pairD), .tup (d1.map pairD), .tup (d2.map pairD)])) t = some (.lst [.tup (d0.map pairD), .tup (d1.map pairD), .tup (d2.map pairD)]) := up_same
  try dsimp only
  rw [u_gN]
  dsimp only [List.set_cons_zero, List.set_cons_succ]
  generalize up g t _ = g at I hg ⊢
  rw [u_seq]
  simp only [wMethT, u_expr, u_callP, u_cons, u_nil, u_op, u_c]
  rw [u_var rfl]
  refine ⟨⟨_, lst_ref hg⟩, ?_⟩
  try dsimp only
  refine mul_comp (by omega) (fun e he => mul_sm (by have := r1.sm e he; omega) hn) rfl rfl ?_
  refine ⟨rfl, mulP n one, rfl, by unfold mulP; rw [List.length_map]; omega, fun d3 d31 d32 => ?_⟩
  refine ⟨t, _, _, rfl, rfl, hg, Nat.lt_of_lt_of_le (show 3 < 100000 by decide) big, ?_⟩
  have I := I.put (o := .lst ([.tup (d0.map pairD), .tup (d1.map pairD), .tup (d2.map pairD)] ++ [.tup (d3.map pairD)])) t0.1
  have hg : (up g t (.lst ([.tup (d0.map pairD), .tup (d1.map pairD), .tup (d2.map pairD)] ++ [.tup (d3.map pairD)]))) t = some (.lst (([d0, d1, d2, d3] : List Prs).map fun d => .tup (d.map pairD))) := up_same
  generalize up g t _ = g at I hg ⊢
  try dsimp only
  rw [u_seq, u_asg, u_lst]
  simp only [u_cons, u_nil, u_op, u_c, u_negO]
  rw [u_var rfl]
  try dsimp only
  rw [u_var rfl, u_own2]
  refine ⟨ledD_isI, ledD_isI, gs, fs, rfl, g2, f2, by omega, fun ss s1 s2 s3 => ?_⟩
  try dsimp only
  rw [u_var rfl]
  try dsimp only
  rw [u_var rfl, u_own2]
  refine ⟨ledD_isI, ledD_isI, gs, fs, rfl, g2, f2, by omega, fun ts t1 t2 t3 => ?_⟩
  try dsimp only
  rw [u_var rfl]
  refine ⟨ledD_isI, fs, rfl, f2, by omega, fun ns n1 n2 n3 => ?_⟩
  try dsimp only
  rw [u_var rfl]
  try dsimp only
  rw [u_var rfl, u_ownI]
  refine ⟨ledD_isI, gs, n, rfl, g2, by omega, (fun e he => mul_sm (by have := led_sm g1 (by omega) r1.sm e he; omega) hn), fun ms m1 m2 m3 => ?_⟩
  refine ⟨sz_le (show 4 ≤ 100000 by decide), ?_⟩
  rw [u_newF, u_gN]
  dsimp only [List.set_cons_zero, List.set_cons_succ]
  have s1 : Led ss (amt (one ++ other)) := s1.of_amt fun k => by rw [amt_append, g1.eqA, f1.eqA]
  have t1 : Led ts (amt (one ++ negP other)) := t1.of_amt fun k => by rw [amt_append, amt_negP, g1.eqA, f1.eqA]; omega
  have n1 : Led ns (amt (negP other)) := n1.of_amt fun k => by rw [amt_negP, f1.eqA]
  have m1 : Led ms (amt (mulP n one)) := m1.of_amt fun k => by rw [amt_mul, g1.eqA]
  obtain rfl : ss = d0 := s1.unique d01
  obtain rfl : ts = d1 := t1.unique d11
  obtain rfl : ns = d2 := n1.unique d21
  obtain rfl : ms = d3 := m1.unique d31
  have sm3 : ∀ e ∈ one ++ negP other, e.2.natAbs < 2 ^ 100 := fun e he => (List.mem_append.mp he).elim (r1.sm e) (r3.sm e)
  have sm2 : ∀ e ∈ one ++ other, e.2.natAbs < 2 ^ 100 := fun e he => (List.mem_append.mp he).elim (r1.sm e) (r2.sm e)
  have rp : Rp (.lst (([ss, ts, ns, ms] : List Prs).map fun d => .tup (d.map pairD))) 3 100000 := by
    refine (rp_lst (k := 2) (n := 3 + 12 * 502) (l := 4) (fun x hx => ?_) (Nat.le_refl _)).up (by decide) (by decide)
    have : x = .tup (ss.map pairD) ∨ x = .tup (ts.map pairD) ∨ x = .tup (ns.map pairD) ∨ x = .tup (ms.map pairD) := by simpa using hx
    rcases this with rfl | rfl | rfl | rfl
    · exact rp_pl s2 (by omega) fun e he => by have := led_sm s1 (by rw [List.length_append]; omega) sm2 e he; omega
    · exact rp_pl t2 (by omega) fun e he => by have := led_sm t1 (by rw [List.length_append]; omega) sm3 e he; omega
    · exact rp_pl n2 (by omega) fun e he => by have := led_sm n1 (by omega) r3.sm e he; omega
    · refine rp_pl m2 (by omega) fun e he => ?_
      have h1 := ((m1.mem e.1 e.2).mp he).1
      have h2 := amt_sm (K := 2 ^ 170) (by decide) (rows := mulP n one) (fun y hy => by
        obtain ⟨w, hw, rfl⟩ := List.mem_map.mp hy
        show (w.2 * n).natAbs < _
        rw [Int.natAbs_mul]
        exact Nat.lt_of_lt_of_le (Nat.mul_lt_mul'' (r1.sm w hw) hnn) (by decide)) e.1
      have h3 : (mulP n one).length ≤ 6 := by unfold mulP; rw [List.length_map]; exact l1
      have h4 := Nat.mul_le_mul_right (2 ^ 170) h3
      rw [← h1] at h2
      omega
  rw [u_seq]
  simp only [u_ifs, u_test, u_op, u_b, u_cons, u_nil]
  rw [u_lc, u_seqi, u_var rfl]
  try dsimp only
  intro t2' ht2
  refine comp_map (ledD z.Ledger) (fun es => .tup (es.map pairD)) [ss, ts, ns, ms] (fun acc => trivial) (sz_le (show 4 ≤ 100000 by decide)) (fun x acc K hx la k => ?_) ?_
  · rw [u_gN]
    simp only [wYes, u_prop, u_asg, u_gN, u_ret, u_retN, u_skip, u_expr, u_ifs, u_c, u_op, u_neg, u_test, u_and, u_or, u_not, u_if, u_nil, u_cons, u_tup, u_lst, u_callP, u_call, u_b, u_chain, u_andV, u_addI, u_subI, u_mulI, u_divI, u_modI, u_powI, u_cmpI, u_eqI, u_eqS, u_eqB, u_abs, u_intI, u_intB, u_newT, u_newF, u_isN, u_notN, wVar, List.set_cons_zero, List.set_cons_succ, List.getElem?_cons_zero, List.getElem?_cons_succ, List.length_cons, List.length_nil, u_lc, u_for, u_r1, u_r2, u_r3, u_num, u_notV, u_yes, u_w0, u_w1, u_dput, u_get2, u_dget, u_prop, u_fld, u_setF, u_make, u_makeS, u_met, u_calO, u_orT, u_tupIt, u_dc, u_maxDd, u_dnew, u_tupi, ix_p0, ix_p1, wSl, woNone, woSome]
    try rw [if_pos trivial]
    exact ⟨ledD_isI, _, rfl, acc, up_same, la, by rw [up_up]; exact k⟩
  refine endF ht2 ?_
  generalize hsh : (pd (.lst (([ss, ts, ns, ms] : List Prs).map fun d => .tup (d.map pairD)))).shown = sh
  refine rp_go rp (by decide) (by decide) rfl ?_
  rw [hsh]
  try dsimp only
  rw [u_var rfl]
  refine rp_r hg rp (by decide) (by decide) ?_
  rw [hsh]
  refine text_same ?_
  try dsimp only
  rw [if_neg (by decide)]
  rw [u_skip]
  try dsimp only
  rw [u_seq]
  simp only [u_prop, u_own2, u_ownC, u_make, u_asg, u_gN, u_ret, u_retN, u_skip, u_expr, u_ifs, u_c, u_op, u_neg, u_test, u_and, u_or, u_not, u_if, u_nil, u_cons, u_tup, u_lst, u_callP, u_call, u_b, u_chain, u_andV, u_addI, u_subI, u_mulI, u_divI, u_modI, u_powI, u_cmpI, u_eqI, u_eqS, u_eqB, u_abs, u_intI, u_intB, u_newT, u_newF, u_isN, u_notN, wVar, List.set_cons_zero, List.set_cons_succ, List.getElem?_cons_zero, List.getElem?_cons_succ, List.length_cons, List.length_nil, u_lc, u_for, u_r1, u_r2, u_r3, u_num, u_notV, u_yes, u_w0, u_w1, u_dput, u_get2, u_dget, u_prop, u_fld, u_setF, u_make, u_makeS, u_met, u_calO, u_orT, u_tupIt, u_dc, u_maxDd, u_dnew, u_tupi, ix_p0, ix_p1, wSl, woNone, woSome]
  refine ⟨ledD_isI, ledD_isI, fs, gs, rfl, f2, g2, by omega, fun us u1 u2 u3 => ?_⟩
  obtain rfl : us = ss := (u1.of_amt fun k => by rw [amt_append, g1.eqA, f1.eqA]; exact Int.add_comm _ _).unique s1
  refine ⟨ledD_isI, us, rfl, ?_⟩
  try dsimp only
  rw [u_ixRd hg (show atI _ 0 = some (D.tup (us.map pairD)) from rfl)]
  refine same_tup (fl_tup (fl_pairs us)) (by decide) ?_
  try dsimp only
  rw [if_neg (by decide)]
  refine ⟨ledD_isI, ledD_isI, gs, gs, rfl, g2, g2, by omega, fun vs w1 w2 w3 => ?_⟩
  obtain rfl : vs = [] := led_nil w1 fun k => by omega
  refine ⟨ledD_isI, [], rfl, ?_⟩
  try dsimp only
  refine ⟨Nat.zero_le _, ?_⟩
  refine nil_tup (fl_tup (fl_pairs [])) (by decide) ?_
  try dsimp only
  rw [if_neg (by decide)]
  intro a ha
  refine make_led (rows := []) rfl ha (fun e he => by cases he) (by decide) fun es e1 e2 e3 => ⟨rfl, _, up_same, ?_⟩
  rw [rm_up, rm_none ha]
  obtain rfl : es = [] := led_nil e1 fun k => rfl
  refine ⟨ledD_isI, ledD_isI, gs, [], rfl, g2, e2, by simp; omega, fun ws w1 w2 w3 => ?_⟩
  obtain rfl : ws = gs := (w1.of_amt fun k => by rw [g1.eqA, amt_nil, Int.add_zero]).unique g1
  refine ⟨ledD_isI, ledD_isI, ws, ws, rfl, g1.std, g1.std, _, rfl, ?_⟩
  rw [decide_eq_true rfl]
  rw [if_neg (by decide), u_seq]
  simp only [u_prop, u_own2, u_ownC, u_make, u_asg, u_gN, u_ret, u_retN, u_skip, u_expr, u_ifs, u_c, u_op, u_neg, u_test, u_and, u_or, u_not, u_if, u_nil, u_cons, u_tup, u_lst, u_callP, u_call, u_b, u_chain, u_andV, u_addI, u_subI, u_mulI, u_divI, u_modI, u_powI, u_cmpI, u_eqI, u_eqS, u_eqB, u_abs, u_intI, u_intB, u_newT, u_newF, u_isN, u_notN, wVar, List.set_cons_zero, List.set_cons_succ, List.getElem?_cons_zero, List.getElem?_cons_succ, List.length_cons, List.length_nil, u_lc, u_for, u_r1, u_r2, u_r3, u_num, u_notV, u_yes, u_w0, u_w1, u_dput, u_get2, u_dget, u_prop, u_fld, u_setF, u_make, u_makeS, u_met, u_calO, u_orT, u_tupIt, u_dc, u_maxDd, u_dnew, u_tupi, ix_p0, ix_p1, wSl, woNone, woSome]
  have sg : ∀ e ∈ ws, e.2.natAbs < 2 ^ 200 := fun e he => by have := led_sm g1 (by omega) r1.sm e he; omega
  have sf : ∀ e ∈ fs, e.2.natAbs < 2 ^ 200 := fun e he => by have := led_sm f1 (by omega) r2.sm e he; omega
  have lw : ws.length ≤ 6 := by omega
  refine ⟨trivial, one, rfl, by omega, fun es e1 _ => ?_⟩
  obtain rfl : es = ws := e1.unique g1
  have tbg : Tb z g := ⟨I.old _ _ tb.1 zp.1, I.old _ _ tb.2 zp.2⟩
  refine ⟨trivial, _, p, es, rfl, tbg, I.pen, by omega, g1.std, g2, lw, sg, fun o po => ?_⟩
  have I := I.draw po
  have hg : (up g p o) t = _ := (up_ne t0.2).trans hg
  generalize up g p o = g at I hg ⊢
  try dsimp only
  rw [if_neg (by decide)]
  refine ⟨trivial, one, rfl, by omega, fun es2 e2 _ => ?_⟩
  obtain rfl : es2 = es := e2.unique g1
  refine ⟨trivial, _, p, es2, rfl, I.pen, by omega, g2, lw, sg, fun o po => ?_⟩
  have I := I.draw po
  generalize up g p o = g at I ⊢
  try dsimp only
  rw [if_neg (by decide), u_seq]
  simp only [u_prop, u_own2, u_ownC, u_make, u_asg, u_gN, u_ret, u_retN, u_skip, u_expr, u_ifs, u_c, u_op, u_neg, u_test, u_and, u_or, u_not, u_if, u_nil, u_cons, u_tup, u_lst, u_callP, u_call, u_b, u_chain, u_andV, u_addI, u_subI, u_mulI, u_divI, u_modI, u_powI, u_cmpI, u_eqI, u_eqS, u_eqB, u_abs, u_intI, u_intB, u_newT, u_newF, u_isN, u_notN, wVar, List.set_cons_zero, List.set_cons_succ, List.getElem?_cons_zero, List.getElem?_cons_succ, List.length_cons, List.length_nil, u_lc, u_for, u_r1, u_r2, u_r3, u_num, u_notV, u_yes, u_w0, u_w1, u_dput, u_get2, u_dget, u_prop, u_fld, u_setF, u_make, u_makeS, u_met, u_calO, u_orT, u_tupIt, u_dc, u_maxDd, u_dnew, u_tupi, ix_p0, ix_p1, wSl, woNone, woSome]
  have tbg : Tb z g := ⟨I.old _ _ tb.1 zp.1, I.old _ _ tb.2 zp.2⟩
  refine ⟨trivial, _, p, one, other, rfl, tbg, I.pen, by omega, r1, r2, fun o po => ?_⟩
  have I := I.draw po
  generalize up g p o = g at I ⊢
  try dsimp only
  rw [if_neg (by decide)]
  refine ⟨ledD_isI, es2, rfl, ?_⟩
  try dsimp only
  refine ⟨ledD_isI, fs, rfl, ?_⟩
  try dsimp only
  refine ⟨sz_le (show 2 ≤ 100000 by decide), ?_⟩
  have rp2 : Rp (.lst [.tup (es2.map pairD), .tup (fs.map pairD)]) 3 100000 := by
    refine (rp_lst (k := 2) (n := 3 + 12 * 502) (l := 2) (fun x hx => ?_) (Nat.le_refl _)).up (by decide) (by decide)
    have : x = .tup (es2.map pairD) ∨ x = .tup (fs.map pairD) := by simpa using hx
    rcases this with rfl | rfl
    · exact rp_pl g2 (by omega) fun e he => by have := sg e he; omega
    · exact rp_pl f2 (by omega) fun e he => by have := sf e he; omega
  generalize hsh2 : (pd (.lst [.tup (es2.map pairD), .tup (fs.map pairD)])).shown = sh2
  refine rp_go rp2 (by decide) (by decide) rfl ?_
  rw [hsh2]
  refine ⟨trivial, one, rfl, by omega, fun es3 e3 _ => ?_⟩
  obtain rfl : es3 = es2 := e3.unique g1
  refine ⟨trivial, other, rfl, by omega, fun fs3 f3' _ => ?_⟩
  obtain rfl : fs3 = fs := f3'.unique f1
  refine ⟨sz_le (show 2 ≤ 100000 by decide), ?_⟩
  refine rp_go rp2 (by decide) (by decide) rfl ?_
  rw [hsh2]
  refine text_same ?_
  try dsimp only
  rw [if_neg (by decide)]
  exact k9 _ _ ⟨_, _, _, _, _, _, _, _, _, rfl, I.mono (by omega)⟩
end K26
namespace K26
open PySem PySem.Spec L2 C8 DL PK PL PQ PN PB F4 PR PyProof.Rows
theorem sc_InvalidCapacity___init__ : FnScope ["self", "value"] ["self", "value"] (defScope s_InvalidCapacity___init__) := ⟨rfl, rfl, rfl, by decide +kernel, rfl, by decide +kernel, by decide +kernel⟩
theorem sc_TooLong___init__ : FnScope ["self", "length"] ["self", "length"] (defScope s_TooLong___init__) := ⟨rfl, rfl, rfl, by decide +kernel, rfl, by decide +kernel, by decide +kernel⟩
theorem sc_is_integer : FnScope PK.N_is_integer ["value"] (defScope s_is_integer) := ⟨rfl, rfl, rfl, by decide +kernel, rfl, by decide +kernel, by decide +kernel⟩
theorem sc_is_between : FnScope PK.N_is_between ["value", "least", "most"] (defScope s_is_between) := ⟨rfl, rfl, rfl, by decide +kernel, rfl, by decide +kernel, by decide +kernel⟩
theorem sc_need_capacity : FnScope N_need_capacity ["value"] (defScope s_need_capacity) := ⟨rfl, rfl, rfl, by decide +kernel, rfl, by decide +kernel, by decide +kernel⟩
theorem sc_is_row : FnScope N_is_row ["value"] (defScope s_is_row) := ⟨rfl, rfl, rfl, by decide +kernel, rfl, by decide +kernel, by decide +kernel⟩
theorem sc_Ledger___init__ : FnScope N_Ledger___init__ ["self", "rows"] (defScope s_Ledger___init__) := ⟨rfl, rfl, rfl, by decide +kernel, rfl, by decide +kernel, by decide +kernel⟩
theorem sc_Ledger_rows : FnScope N_Ledger_rows ["self"] (defScope s_Ledger_rows) := ⟨rfl, rfl, rfl, by decide +kernel, rfl, by decide +kernel, by decide +kernel⟩
theorem sc_Ledger_greatest : FnScope N_Ledger_greatest ["self"] (defScope s_Ledger_greatest) := ⟨rfl, rfl, rfl, by decide +kernel, rfl, by decide +kernel, by decide +kernel⟩
theorem sc_Ledger___len__ : FnScope N_Ledger___len__ ["self"] (defScope s_Ledger___len__) := ⟨rfl, rfl, rfl, by decide +kernel, rfl, by decide +kernel, by decide +kernel⟩
theorem sc_Ledger___add__ : FnScope N_Ledger___add__ ["self", "other"] (defScope s_Ledger___add__) := ⟨rfl, rfl, rfl, by decide +kernel, rfl, by decide +kernel, by decide +kernel⟩
theorem sc_Ledger___neg__ : FnScope N_Ledger___neg__ ["self"] (defScope s_Ledger___neg__) := ⟨rfl, rfl, rfl, by decide +kernel, rfl, by decide +kernel, by decide +kernel⟩
theorem sc_Ledger___sub__ : FnScope N_Ledger___sub__ ["self", "other"] (defScope s_Ledger___sub__) := ⟨rfl, rfl, rfl, by decide +kernel, rfl, by decide +kernel, by decide +kernel⟩
theorem sc_Ledger___mul__ : FnScope N_Ledger___mul__ ["self", "number"] (defScope s_Ledger___mul__) := ⟨rfl, rfl, rfl, by decide +kernel, rfl, by decide +kernel, by decide +kernel⟩
theorem sc_Ledger_moved : FnScope N_Ledger_moved ["self", "by"] (defScope s_Ledger_moved) := ⟨rfl, rfl, rfl, by decide +kernel, rfl, by decide +kernel, by decide +kernel⟩
theorem sc_Ledger_from_offset : FnScope N_Ledger_from_offset ["self", "offset"] (defScope s_Ledger_from_offset) := ⟨rfl, rfl, rfl, by decide +kernel, rfl, by decide +kernel, by decide +kernel⟩
theorem sc_Ledger_sum_at : FnScope N_Ledger_sum_at ["self", "capacity"] (defScope s_Ledger_sum_at) := ⟨rfl, rfl, rfl, by decide +kernel, rfl, by decide +kernel, by decide +kernel⟩
theorem sc_Ledger___call__ : FnScope N_Ledger___call__ ["self", "capacity"] (defScope s_Ledger___call__) := ⟨rfl, rfl, rfl, by decide +kernel, rfl, by decide +kernel, by decide +kernel⟩
theorem sc_Ledger___eq__ : FnScope N_Ledger___eq__ ["self", "other"] (defScope s_Ledger___eq__) := ⟨rfl, rfl, rfl, by decide +kernel, rfl, by decide +kernel, by decide +kernel⟩
theorem sc__law_pen : FnScope N__law_pen ["_law_script"] (defScope s__law_pen) := ⟨rfl, rfl, rfl, by decide +kernel, rfl, by decide +kernel, by decide +kernel⟩
theorem sc__law_draw : FnScope N__law_draw ["_law_pen_here", "_law_many"] (defScope s__law_draw) := ⟨rfl, rfl, rfl, by decide +kernel, rfl, by decide +kernel, by decide +kernel⟩
theorem sc__law_word : FnScope N__law_word ["_law_it"] (defScope s__law_word) := ⟨rfl, rfl, rfl, by decide +kernel, rfl, by decide +kernel, by decide +kernel⟩
theorem sc__law_field : FnScope N__law_field ["_law_word_here", "_law_it"] (defScope s__law_field) := ⟨rfl, rfl, rfl, by decide +kernel, rfl, by decide +kernel, by decide +kernel⟩
theorem sc__law_more_field : FnScope N__law_more_field ["_law_word_here", "_law_it"] (defScope s__law_more_field) := ⟨rfl, rfl, rfl, by decide +kernel, rfl, by decide +kernel, by decide +kernel⟩
theorem sc__law_heard : FnScope N__law_heard ["_law_ask"] (defScope s__law_heard) := ⟨rfl, rfl, rfl, by decide +kernel, rfl, by decide +kernel, by decide +kernel⟩
theorem sc__law_offset : FnScope N__law_offset ["_law_pen_here"] (defScope s__law_offset) := ⟨rfl, rfl, rfl, by decide +kernel, rfl, by decide +kernel, by decide +kernel⟩
theorem sc__law_amount : FnScope N__law_amount ["_law_pen_here"] (defScope s__law_amount) := ⟨rfl, rfl, rfl, by decide +kernel, rfl, by decide +kernel, by decide +kernel⟩
theorem sc__law_rows : FnScope N__law_rows ["_law_pen_here", "_law_most"] (defScope s__law_rows) := ⟨rfl, rfl, rfl, by decide +kernel, rfl, by decide +kernel, by decide +kernel⟩
theorem sc__law_sums : FnScope N__law_sums ["_law_rows_here"] (defScope s__law_sums) := ⟨rfl, rfl, rfl, by decide +kernel, rfl, by decide +kernel, by decide +kernel⟩
theorem sc__law_ledger : FnScope N__law_ledger ["_law_rows_here"] (defScope s__law_ledger) := ⟨rfl, rfl, rfl, by decide +kernel, rfl, by decide +kernel, by decide +kernel⟩
theorem sc__law_moved_right : FnScope N__law_moved_right ["_law_pen_here", "_law_made", "_law_due_here"] (defScope s__law_moved_right) := ⟨rfl, rfl, rfl, by decide +kernel, rfl, by decide +kernel, by decide +kernel⟩
theorem sc__law_from_right : FnScope N__law_from_right ["_law_pen_here", "_law_made", "_law_due_here"] (defScope s__law_from_right) := ⟨rfl, rfl, rfl, by decide +kernel, rfl, by decide +kernel, by decide +kernel⟩
theorem sc__law_capacity : FnScope N__law_capacity ["_law_pen_here", "_law_near"] (defScope s__law_capacity) := ⟨rfl, rfl, rfl, by decide +kernel, rfl, by decide +kernel, by decide +kernel⟩
theorem sc__law_no_capacity : FnScope N__law_no_capacity ["_law_pen_here"] (defScope s__law_no_capacity) := ⟨rfl, rfl, rfl, by decide +kernel, rfl, by decide +kernel, by decide +kernel⟩
theorem sc__law_due : FnScope N__law_due ["_law_rows_here", "_law_size"] (defScope s__law_due) := ⟨rfl, rfl, rfl, by decide +kernel, rfl, by decide +kernel, by decide +kernel⟩
theorem sc__law_called_right : FnScope N__law_called_right ["_law_pen_here", "_law_one", "_law_other"] (defScope s__law_called_right) := ⟨rfl, rfl, rfl, by decide +kernel, rfl, by decide +kernel, by decide +kernel⟩
theorem sc_law : FnScope N_law ["_law_script"] (defScope s_law) := ⟨rfl, rfl, rfl, by decide +kernel, rfl, by decide +kernel, by decide +kernel⟩
/-- what the module's names hold -/
structure Txt (K : PySem.W.Frag) (mg : Str → Option Value) (z : Ad) : Prop where
  k_Ledger : Cls K z.Ledger
  n_Ledger_amounts : NoAttr K z.Ledger "amounts"
  i_Ledger : IsiC K z.Ledger
  v_Ledger : Cst K mg "Ledger" (.ref z.Ledger)
  v_AbsentError : Cst K mg "AbsentError" (.ref z.AbsentError)
  v_Contradiction : Cst K mg "Contradiction" (.ref z.Contradiction)
  v_DifferentModes : Cst K mg "DifferentModes" (.ref z.DifferentModes)
  v_EchoError : Cst K mg "EchoError" (.ref z.EchoError)
  v_Finished : Cst K mg "Finished" (.ref z.Finished)
  v_Full : Cst K mg "Full" (.ref z.Full)
  v_InvalidAccount : Cst K mg "InvalidAccount" (.ref z.InvalidAccount)
  v_InvalidBound : Cst K mg "InvalidBound" (.ref z.InvalidBound)
  v_InvalidCapacity : Cst K mg "InvalidCapacity" (.ref z.InvalidCapacity)
  v_InvalidMode : Cst K mg "InvalidMode" (.ref z.InvalidMode)
  v_InvalidNumber : Cst K mg "InvalidNumber" (.ref z.InvalidNumber)
  v_InvalidProgram : Cst K mg "InvalidProgram" (.ref z.InvalidProgram)
  v_InvalidReading : Cst K mg "InvalidReading" (.ref z.InvalidReading)
  v_InvalidRow : Cst K mg "InvalidRow" (.ref z.InvalidRow)
  v_InvalidTable : Cst K mg "InvalidTable" (.ref z.InvalidTable)
  v_InvalidText : Cst K mg "InvalidText" (.ref z.InvalidText)
  v_Lossy : Cst K mg "Lossy" (.ref z.Lossy)
  v_NoName : Cst K mg "NoName" (.ref z.NoName)
  v_NoPlace : Cst K mg "NoPlace" (.ref z.NoPlace)
  v_NoPoint : Cst K mg "NoPoint" (.ref z.NoPoint)
  v_NoReading : Cst K mg "NoReading" (.ref z.NoReading)
  v_NothingToUndo : Cst K mg "NothingToUndo" (.ref z.NothingToUndo)
  v_SizeError : Cst K mg "SizeError" (.ref z.SizeError)
  v_TooLarge : Cst K mg "TooLarge" (.ref z.TooLarge)
  v_TooLong : Cst K mg "TooLong" (.ref z.TooLong)
  v_TooManyProcesses : Cst K mg "TooManyProcesses" (.ref z.TooManyProcesses)
  v_UnknownCommand : Cst K mg "UnknownCommand" (.ref z.UnknownCommand)
  xg_EchoError : mg "EchoError" = some (.ref z.EchoError)
  xg_SizeError : mg "SizeError" = some (.ref z.SizeError)
  xg_AbsentError : mg "AbsentError" = some (.ref z.AbsentError)
  xerr : ∀ C ∈ errs z, PySem.W.exmAny K (.ref C) [.ref z.EchoError, .ref z.SizeError, .ref z.AbsentError] = some true
  xtab : XTabOk K (xtab z)
  xf_asked : ∀ C ∈ [], XVal K C ∧ PySem.W.findIn K (.ref C) "asked" = some none
  xf_command : ∀ C ∈ [], XVal K C ∧ PySem.W.findIn K (.ref C) "command" = some none
  xf_count : ∀ C ∈ [], XVal K C ∧ PySem.W.findIn K (.ref C) "count" = some none
  xf_first : ∀ C ∈ [], XVal K C ∧ PySem.W.findIn K (.ref C) "first" = some none
  xf_index : ∀ C ∈ [], XVal K C ∧ PySem.W.findIn K (.ref C) "index" = some none
  xf_length : ∀ C ∈ [z.TooLong], XVal K C ∧ PySem.W.findIn K (.ref C) "length" = some none
  xf_limit : ∀ C ∈ [], XVal K C ∧ PySem.W.findIn K (.ref C) "limit" = some none
  xf_line : ∀ C ∈ [], XVal K C ∧ PySem.W.findIn K (.ref C) "line" = some none
  xf_name : ∀ C ∈ [], XVal K C ∧ PySem.W.findIn K (.ref C) "name" = some none
  xf_number : ∀ C ∈ [], XVal K C ∧ PySem.W.findIn K (.ref C) "number" = some none
  xf_place : ∀ C ∈ [], XVal K C ∧ PySem.W.findIn K (.ref C) "place" = some none
  xf_point : ∀ C ∈ [], XVal K C ∧ PySem.W.findIn K (.ref C) "point" = some none
  xf_points : ∀ C ∈ [], XVal K C ∧ PySem.W.findIn K (.ref C) "points" = some none
  xf_second : ∀ C ∈ [], XVal K C ∧ PySem.W.findIn K (.ref C) "second" = some none
  xf_value : ∀ C ∈ [z.InvalidCapacity], XVal K C ∧ PySem.W.findIn K (.ref C) "value" = some none
  xf_word : ∀ C ∈ [], XVal K C ∧ PySem.W.findIn K (.ref C) "word" = some none
  z_LookupError : mg "LookupError" = none
  z_OverflowError : mg "OverflowError" = none
  z_ValueError : mg "ValueError" = none
  z_abs : mg "abs" = none
  z_bool : mg "bool" = none
  z_enumerate : mg "enumerate" = none
  z_int : mg "int" = none
  z_isinstance : mg "isinstance" = none
  z_len : mg "len" = none
  z_list : mg "list" = none
  z_max : mg "max" = none
  z_min : mg "min" = none
  z_range : mg "range" = none
  z_repr : mg "repr" = none
  z_sorted : mg "sorted" = none
  z_sum : mg "sum" = none
  z_tuple : mg "tuple" = none
  c_MOST_CAPACITY : Cst K mg "MOST_CAPACITY" (.int 1000000000000000000000000000000)
  c_MOST_OFFSET : Cst K mg "MOST_OFFSET" (.int 1000000)
/-! ### the derivations -/
section
variable {P : Program} {w : World} {K : PySem.W.Frag} {mg : Str → Option Value} {base : Heap}
theorem d_is_integer {z : Ad} (T : Txt K mg z)  {f : Addr} (cdv : Value) (A : Around) (outer : List PySem.Env) (s : Shared) (H : Hp) (E : XK) (c : Cg false (cxOf (L2.CX P w) P w K mg base PK.N_is_integer "is_integer" (defScope s_is_integer) f cdv A outer s H E) E 0) :
    ASs (cxOf (L2.CX P w) P w K mg base PK.N_is_integer "is_integer" (defScope s_is_integer) f cdv A outer s H E) E (defBody s_is_integer) (PK.w_is_integer z) :=
  (ass_one (as_ret (ae_and (ae_b dIsi_ok T.z_isinstance bb_isinstance (aa_cons (ae_var 0) (aa_cons (ae_ty T.z_int bb_int) aa_nil))) (ae_one (ae_not (ae_b dIsi_ok T.z_isinstance bb_isinstance (aa_cons (ae_var 0) (aa_cons (ae_ty T.z_bool bb_bool) aa_nil))))))))
theorem d_is_between {z : Ad} (T : Txt K mg z) (C_is_integer : Cal false P w K mg base "is_integer" 1 1 [] (fun ds _ => ds) (PK.S_is_integer z)) {f : Addr} (cdv : Value) (A : Around) (outer : List PySem.Env) (s : Shared) (H : Hp) (E : XK) (c : Cg false (cxOf (L2.CX P w) P w K mg base PK.N_is_between "is_between" (defScope s_is_between) f cdv A outer s H E) E 1) :
    ASs (cxOf (L2.CX P w) P w K mg base PK.N_is_between "is_between" (defScope s_is_between) f cdv A outer s H E) E (defBody s_is_between) (PK.w_is_between z) :=
  (ass_one (as_ret (ae_and (ae_call c C_is_integer (by decide) (by decide) (aa_cons (ae_var 0) aa_nil)) (ae_one (ae_chain2 dCmpI_ok dCmpI_ok op_le op_le (ae_var 1) (ae_var 0) (ae_var 2))))))
theorem d_need_capacity {z : Ad} (T : Txt K mg z) (C_is_between : Cal false P w K mg base "is_between" 2 3 [] (fun ds _ => ds) (PK.S_is_between z)) (X_InvalidCapacity : XMk P w K mg base "InvalidCapacity" z.InvalidCapacity 1 ["value"]) {f : Addr} (cdv : Value) (A : Around) (outer : List PySem.Env) (s : Shared) (H : Hp) (E : XK) (c : Cg false (cxOf (L2.CX P w) P w K mg base N_need_capacity "need_capacity" (defScope s_need_capacity) f cdv A outer s H E) E 2) :
    ASs (cxOf (L2.CX P w) P w K mg base N_need_capacity "need_capacity" (defScope s_need_capacity) f cdv A outer s H E) E (defBody s_need_capacity) (PR.w_need_capacity z) :=
  (ass_one (as_if (at_not (at_val (ae_call c C_is_between (by decide) (by decide) (aa_cons (ae_var 0) (aa_cons ae_int (aa_cons (ae_glob T.c_MOST_CAPACITY) aa_nil)))))) (ass_one (as_raise c X_InvalidCapacity (by decide) (aa_cons (ae_var 0) aa_nil))) ass_nil))
theorem d_is_row {z : Ad} (T : Txt K mg z) (C_is_between : Cal false P w K mg base "is_between" 2 3 [] (fun ds _ => ds) (PK.S_is_between z)) (C_is_integer : Cal false P w K mg base "is_integer" 1 1 [] (fun ds _ => ds) (PK.S_is_integer z)) {f : Addr} (cdv : Value) (A : Around) (outer : List PySem.Env) (s : Shared) (H : Hp) (E : XK) (c : Cg false (cxOf (L2.CX P w) P w K mg base N_is_row "is_row" (defScope s_is_row) f cdv A outer s H E) E 2) :
    ASs (cxOf (L2.CX P w) P w K mg base N_is_row "is_row" (defScope s_is_row) f cdv A outer s H E) E (defBody s_is_row) (PL.w_is_row z) :=
  (ass_cons (as_if (AW.at (aw_or (at_not (at_val (ae_b dIsi_ok T.z_isinstance bb_isinstance (aa_cons (ae_var 0) (aa_cons (ae_ty T.z_tuple bb_tuple) aa_nil))))) (aw_or1 (at_ne c (ae_b dLen_ok T.z_len bb_len (aa_cons (ae_var 0) aa_nil)) ae_int)))) (ass_one (as_ret ae_bl)) ass_nil)
    (ass_one (as_ret (ae_and (ae_call c C_is_between (by decide) (by decide) (aa_cons (ae_ix (ae_var 0) ae_int) (aa_cons ae_int (aa_cons (ae_glob T.c_MOST_OFFSET) aa_nil)))) (ae_one (ae_call c C_is_integer (by decide) (by decide) (aa_cons (ae_ix (ae_var 0) ae_int) aa_nil)))))))
theorem d_Ledger___init__ {z : Ad} (T : Txt K mg z) (C_is_row : Cal false P w K mg base "is_row" 3 1 [] (fun ds _ => ds) (PL.S_is_row z)) {f : Addr} (cdv : Value) (A : Around) (outer : List PySem.Env) (s : Shared) (H : Hp) (E : XK) (c : Cg false (cxOf (L2.CX P w) P w K mg base N_Ledger___init__ "Ledger.__init__" (defScope s_Ledger___init__) f cdv A outer s H E) E 3) :
    ASs (cxOf (L2.CX P w) P w K mg base N_Ledger___init__ "Ledger.__init__" (defScope s_Ledger___init__) f cdv A outer s H E) E (defBody s_Ledger___init__) (PL.w_Ledger___init__ z) :=
  (ass_cons (as_set 2 c.nd ae_dnew)
    (ass_cons (as_for c (ai_num T.z_enumerate (aa_cons (ae_var 1) aa_nil)) (ag_tup c.calm (ags_cons (ag_name 3 c.nd) (ags_cons (ag_name 4 c.nd) ags_nil))) (ass_cons (as_if (at_not (at_val (ae_call c C_is_row (by decide) (by decide) (aa_cons (ae_var 4) aa_nil)))) (ass_one as_never) ass_nil)
    (ass_one (as_dput c (ae_var 2) (ae_ix (ae_var 4) ae_int) (ae_add false (ae_get2 c (ae_var 2) (ae_ix (ae_var 4) ae_int) ae_int ⟨rfl, rfl, rfl, rfl⟩) (ae_ix (ae_var 4) ae_int))))))
    (ass_one (as_fld T.k_Ledger T.n_Ledger_amounts (ae_var 0) (ae_dc false (own := [("offset", 5)]) c (ai_list (ae_b (dSortD_ok (m := false) c.calm) T.z_sorted PyProof.Rows.boot_sorted (aa_cons (ae_var 2) aa_nil))) (show BlkOk N_Ledger___init__ (defScope s_Ledger___init__) _ [("offset", 5)] from ⟨rfl, by decide +kernel, by decide +kernel, by decide +kernel, by decide +kernel⟩) (gw_name (i := 5) (by decide)) (fun s H C cl fp => pg_name (i := 5) c.nd rfl (by first | exact Or.inl rfl | exact Or.inr rfl)) (fun s H C cl fp c => ats_one (at_ne c (ae_dget c (ae_var 2) (ae_var 5) (fun _ _ => rfl)) ae_int)) (fun s H C cl fp c => (ae_var 5)) (fun s H C cl fp c => (ae_dget c (ae_var 2) (ae_var 5) (fun _ _ => rfl))))))))
theorem d_Ledger_rows {z : Ad} (T : Txt K mg z)  {f : Addr} (cdv : Value) (A : Around) (outer : List PySem.Env) (s : Shared) (H : Hp) (E : XK) (c : Cg false (cxOf (L2.CX P w) P w K mg base N_Ledger_rows "Ledger.rows" (defScope s_Ledger_rows) f cdv A outer s H E) E 0) :
    ASs (cxOf (L2.CX P w) P w K mg base N_Ledger_rows "Ledger.rows" (defScope s_Ledger_rows) f cdv A outer s H E) E (defBody s_Ledger_rows) (PL.w_Ledger_rows z) :=
  (ass_one (as_ret (ae_tupIt T.z_tuple c (ae_fld T.k_Ledger T.n_Ledger_amounts (ae_var 0)))))
theorem d_Ledger_greatest {z : Ad} (T : Txt K mg z)  {f : Addr} (cdv : Value) (A : Around) (outer : List PySem.Env) (s : Shared) (H : Hp) (E : XK) (c : Cg false (cxOf (L2.CX P w) P w K mg base N_Ledger_greatest "Ledger.greatest" (defScope s_Ledger_greatest) f cdv A outer s H E) E 0) :
    ASs (cxOf (L2.CX P w) P w K mg base N_Ledger_greatest "Ledger.greatest" (defScope s_Ledger_greatest) f cdv A outer s H E) E (defBody s_Ledger_greatest) (PL.w_Ledger_greatest z) :=
  (ass_one (as_ret (ae_maxDd T.z_max c (aa_cons (ae_fld T.k_Ledger T.n_Ledger_amounts (ae_var 0)) aa_nil) (ak_cons ae_non ak_nil))))
theorem d_Ledger___len__ {z : Ad} (T : Txt K mg z)  {f : Addr} (cdv : Value) (A : Around) (outer : List PySem.Env) (s : Shared) (H : Hp) (E : XK) (c : Cg false (cxOf (L2.CX P w) P w K mg base N_Ledger___len__ "Ledger.__len__" (defScope s_Ledger___len__) f cdv A outer s H E) E 0) :
    ASs (cxOf (L2.CX P w) P w K mg base N_Ledger___len__ "Ledger.__len__" (defScope s_Ledger___len__) f cdv A outer s H E) E (defBody s_Ledger___len__) (PL.w_Ledger___len__ z) :=
  (ass_one (as_ret (ae_b dLen_ok T.z_len bb_len (aa_cons (ae_fld T.k_Ledger T.n_Ledger_amounts (ae_var 0)) aa_nil))))
theorem d_Ledger___add__ {z : Ad} (T : Txt K mg z) (M_Ledger : MakC P w K mg base "Ledger" z.Ledger 4 (starS 1 (PL.S_Ledger___init__ z))) (R_Ledger_rows : PrpC P w K mg base z.Ledger "rows" 1 (PL.S_Ledger_rows z)) {f : Addr} (cdv : Value) (A : Around) (outer : List PySem.Env) (s : Shared) (H : Hp) (E : XK) (c : Cg false (cxOf (L2.CX P w) P w K mg base N_Ledger___add__ "Ledger.__add__" (defScope s_Ledger___add__) f cdv A outer s H E) E 5) :
    ASs (cxOf (L2.CX P w) P w K mg base N_Ledger___add__ "Ledger.__add__" (defScope s_Ledger___add__) f cdv A outer s H E) E (defBody s_Ledger___add__) (PL.w_Ledger___add__ z) :=
  (ass_cons (as_set 2 c.nd (ae_add false (ag_prop c R_Ledger_rows (by decide) (ae_var 0)) (ag_prop c R_Ledger_rows (by decide) (ae_var 1))))
    (ass_one (as_ret (ag_makeS c M_Ledger (by decide) (ae_var 2)))))
theorem d_Ledger___neg__ {z : Ad} (T : Txt K mg z) (R_Ledger___mul__ : OpIC P w K mg base z.Ledger .Mult 6 (S_Ledger___mul__ z)) {f : Addr} (cdv : Value) (A : Around) (outer : List PySem.Env) (s : Shared) (H : Hp) (E : XK) (c : Cg false (cxOf (L2.CX P w) P w K mg base N_Ledger___neg__ "Ledger.__neg__" (defScope s_Ledger___neg__) f cdv A outer s H E) E 6) :
    ASs (cxOf (L2.CX P w) P w K mg base N_Ledger___neg__ "Ledger.__neg__" (defScope s_Ledger___neg__) f cdv A outer s H E) E (defBody s_Ledger___neg__) (w_Ledger___neg__ z) :=
  (ass_one (as_ret (ag_ownI c R_Ledger___mul__ (by decide) (ae_var 0) (ae_neg ae_int))))
theorem d_Ledger___sub__ {z : Ad} (T : Txt K mg z) (R_Ledger___neg__ : NegC P w K mg base z.Ledger 7 (S_Ledger___neg__ z)) (R_Ledger___add__ : Op2C P w K mg base z.Ledger .Add 6 (PL.S_Ledger___add__ z)) {f : Addr} (cdv : Value) (A : Around) (outer : List PySem.Env) (s : Shared) (H : Hp) (E : XK) (c : Cg false (cxOf (L2.CX P w) P w K mg base N_Ledger___sub__ "Ledger.__sub__" (defScope s_Ledger___sub__) f cdv A outer s H E) E 7) :
    ASs (cxOf (L2.CX P w) P w K mg base N_Ledger___sub__ "Ledger.__sub__" (defScope s_Ledger___sub__) f cdv A outer s H E) E (defBody s_Ledger___sub__) (w_Ledger___sub__ z) :=
  (ass_one (as_ret (ag_own2 c R_Ledger___add__ (by decide) (ae_var 0) (ag_negO c R_Ledger___neg__ (by decide) (ae_var 1)))))
theorem d_Ledger___mul__ {z : Ad} (T : Txt K mg z) (M_Ledger : MakC P w K mg base "Ledger" z.Ledger 4 (starS 1 (PL.S_Ledger___init__ z))) (R_Ledger_rows : PrpC P w K mg base z.Ledger "rows" 1 (PL.S_Ledger_rows z)) {f : Addr} (cdv : Value) (A : Around) (outer : List PySem.Env) (s : Shared) (H : Hp) (E : XK) (c : Cg false (cxOf (L2.CX P w) P w K mg base N_Ledger___mul__ "Ledger.__mul__" (defScope s_Ledger___mul__) f cdv A outer s H E) E 5) :
    ASs (cxOf (L2.CX P w) P w K mg base N_Ledger___mul__ "Ledger.__mul__" (defScope s_Ledger___mul__) f cdv A outer s H E) E (defBody s_Ledger___mul__) (w_Ledger___mul__ z) :=
  (ass_cons (as_setLc false 2 (own := [("offset", 3), ("amount", 4)]) c (ai_tup (ag_prop c R_Ledger_rows (by decide) (ae_var 0))) (show BlkOk N_Ledger___mul__ (defScope s_Ledger___mul__) _ [("offset", 3), ("amount", 4)] from ⟨rfl, by decide +kernel, by decide +kernel, by decide +kernel, by decide +kernel⟩) (gw_tup (is := [3, 4]) (by decide)) (fun s H C cl fp => pg_tup c.calm (pgs_cons (pg_name (i := 3) c.nd rfl (by first | exact Or.inl rfl | exact Or.inr rfl)) (pgs_cons (pg_name (i := 4) c.nd rfl (by first | exact Or.inl rfl | exact Or.inr rfl)) pgs_nil))) (fun s H C cl fp c => ats_nil) (fun s H C cl fp c => (ae_tup (aa_cons (ae_var 3) (aa_cons (ae_mul false (ae_var 4) (ae_var 1)) aa_nil)))))
    (ass_one (as_ret (ag_makeS c M_Ledger (by decide) (ae_var 2)))))
theorem d_Ledger_moved {z : Ad} (T : Txt K mg z) (LN_Ledger : LenC P w K mg base z.Ledger 1 (PL.S_Ledger___len__ z)) (M_Ledger : MakC P w K mg base "Ledger" z.Ledger 4 (starS 1 (PL.S_Ledger___init__ z))) (R_Ledger_greatest : PrpC P w K mg base z.Ledger "greatest" 1 (PL.S_Ledger_greatest z)) (R_Ledger_rows : PrpC P w K mg base z.Ledger "rows" 1 (PL.S_Ledger_rows z)) (X_TooLong : XMk P w K mg base "TooLong" z.TooLong 1 ["length"]) {f : Addr} (cdv : Value) (A : Around) (outer : List PySem.Env) (s : Shared) (H : Hp) (E : XK) (c : Cg false (cxOf (L2.CX P w) P w K mg base N_Ledger_moved "Ledger.moved" (defScope s_Ledger_moved) f cdv A outer s H E) E 5) :
    ASs (cxOf (L2.CX P w) P w K mg base N_Ledger_moved "Ledger.moved" (defScope s_Ledger_moved) f cdv A outer s H E) E (defBody s_Ledger_moved) (w_Ledger_moved z) :=
  (ass_cons (as_if (AW.at (aw_and (at_gt (ae_b (dLenO_ok c LN_Ledger (by decide)) T.z_len bb_len (aa_cons (ae_var 0) aa_nil)) ae_int) (aw_and1 (at_gt (ae_add false (ag_prop c R_Ledger_greatest (by decide) (ae_var 0)) (ae_var 1)) (ae_glob T.c_MOST_OFFSET))))) (ass_one (as_raise c X_TooLong (by decide) (aa_cons (ae_add false (ag_prop c R_Ledger_greatest (by decide) (ae_var 0)) (ae_var 1)) aa_nil))) ass_nil)
    (ass_cons (as_setLc false 2 (own := [("offset", 3), ("amount", 4)]) c (ai_tup (ag_prop c R_Ledger_rows (by decide) (ae_var 0))) (show BlkOk N_Ledger_moved (defScope s_Ledger_moved) _ [("offset", 3), ("amount", 4)] from ⟨rfl, by decide +kernel, by decide +kernel, by decide +kernel, by decide +kernel⟩) (gw_tup (is := [3, 4]) (by decide)) (fun s H C cl fp => pg_tup c.calm (pgs_cons (pg_name (i := 3) c.nd rfl (by first | exact Or.inl rfl | exact Or.inr rfl)) (pgs_cons (pg_name (i := 4) c.nd rfl (by first | exact Or.inl rfl | exact Or.inr rfl)) pgs_nil))) (fun s H C cl fp c => ats_nil) (fun s H C cl fp c => (ae_tup (aa_cons (ae_add false (ae_var 3) (ae_var 1)) (aa_cons (ae_var 4) aa_nil)))))
    (ass_one (as_ret (ag_makeS c M_Ledger (by decide) (ae_var 2))))))
theorem d_Ledger_from_offset {z : Ad} (T : Txt K mg z) (R_Ledger_rows : PrpC P w K mg base z.Ledger "rows" 1 (PL.S_Ledger_rows z)) {f : Addr} (cdv : Value) (A : Around) (outer : List PySem.Env) (s : Shared) (H : Hp) (E : XK) (c : Cg false (cxOf (L2.CX P w) P w K mg base N_Ledger_from_offset "Ledger.from_offset" (defScope s_Ledger_from_offset) f cdv A outer s H E) E 2) :
    ASs (cxOf (L2.CX P w) P w K mg base N_Ledger_from_offset "Ledger.from_offset" (defScope s_Ledger_from_offset) f cdv A outer s H E) E (defBody s_Ledger_from_offset) (PB.w_Ledger_from_offset z) :=
  (ass_one (as_ret (ae_b (dSum_ok c.calm) T.z_sum bb_sum (aa_cons (ae_lc false (own := [("place", 2), ("amount", 3)]) c (ai_tup (ag_prop c R_Ledger_rows (by decide) (ae_var 0))) (show BlkOk N_Ledger_from_offset (defScope s_Ledger_from_offset) _ [("place", 2), ("amount", 3)] from ⟨rfl, by decide +kernel, by decide +kernel, by decide +kernel, by decide +kernel⟩) (gw_tup (is := [2, 3]) (by decide)) (fun s H C cl fp => pg_tup c.calm (pgs_cons (pg_name (i := 2) c.nd rfl (by first | exact Or.inl rfl | exact Or.inr rfl)) (pgs_cons (pg_name (i := 3) c.nd rfl (by first | exact Or.inl rfl | exact Or.inr rfl)) pgs_nil))) (fun s H C cl fp c => ats_one (at_ge (ae_var 2) (ae_var 1))) (fun s H C cl fp c => (ae_var 3))) aa_nil))))
theorem d_Ledger_sum_at {z : Ad} (T : Txt K mg z) (R_Ledger_rows : PrpC P w K mg base z.Ledger "rows" 1 (PL.S_Ledger_rows z)) {f : Addr} (cdv : Value) (A : Around) (outer : List PySem.Env) (s : Shared) (H : Hp) (E : XK) (c : Cg false (cxOf (L2.CX P w) P w K mg base N_Ledger_sum_at "Ledger.sum_at" (defScope s_Ledger_sum_at) f cdv A outer s H E) E 2) :
    ASs (cxOf (L2.CX P w) P w K mg base N_Ledger_sum_at "Ledger.sum_at" (defScope s_Ledger_sum_at) f cdv A outer s H E) E (defBody s_Ledger_sum_at) (PL.w_Ledger_sum_at z) :=
  (ass_one (as_ret (ae_b (dSum_ok c.calm) T.z_sum bb_sum (aa_cons (ae_lc false (own := [("offset", 2), ("amount", 3)]) c (ai_tup (ag_prop c R_Ledger_rows (by decide) (ae_var 0))) (show BlkOk N_Ledger_sum_at (defScope s_Ledger_sum_at) _ [("offset", 2), ("amount", 3)] from ⟨rfl, by decide +kernel, by decide +kernel, by decide +kernel, by decide +kernel⟩) (gw_tup (is := [2, 3]) (by decide)) (fun s H C cl fp => pg_tup c.calm (pgs_cons (pg_name (i := 2) c.nd rfl (by first | exact Or.inl rfl | exact Or.inr rfl)) (pgs_cons (pg_name (i := 3) c.nd rfl (by first | exact Or.inl rfl | exact Or.inr rfl)) pgs_nil))) (fun s H C cl fp c => ats_nil) (fun s H C cl fp c => (ae_mul false (ae_var 3) (ae_mod (ae_var 2) (ae_var 1))))) aa_nil))))
theorem d_Ledger___call__ {z : Ad} (T : Txt K mg z) (C_need_capacity : Cal false P w K mg base "need_capacity" 3 1 [] (fun ds _ => ds) (PR.S_need_capacity z)) (R_Ledger_sum_at : MetC P w K mg base z.Ledger "sum_at" 3 (PL.S_Ledger_sum_at z)) {f : Addr} (cdv : Value) (A : Around) (outer : List PySem.Env) (s : Shared) (H : Hp) (E : XK) (c : Cg false (cxOf (L2.CX P w) P w K mg base N_Ledger___call__ "Ledger.__call__" (defScope s_Ledger___call__) f cdv A outer s H E) E 3) :
    ASs (cxOf (L2.CX P w) P w K mg base N_Ledger___call__ "Ledger.__call__" (defScope s_Ledger___call__) f cdv A outer s H E) E (defBody s_Ledger___call__) (w_Ledger___call__ z) :=
  (ass_cons (as_expr (ae_call c C_need_capacity (by decide) (by decide) (aa_cons (ae_var 1) aa_nil)))
    (ass_one (as_ret (ag_met c R_Ledger_sum_at (by decide) (ae_var 0) (aa_cons (ae_var 1) aa_nil)))))
theorem d_Ledger___eq__ {z : Ad} (T : Txt K mg z)  {f : Addr} (cdv : Value) (A : Around) (outer : List PySem.Env) (s : Shared) (H : Hp) (E : XK) (c : Cg false (cxOf (L2.CX P w) P w K mg base N_Ledger___eq__ "Ledger.__eq__" (defScope s_Ledger___eq__) f cdv A outer s H E) E 0) :
    ASs (cxOf (L2.CX P w) P w K mg base N_Ledger___eq__ "Ledger.__eq__" (defScope s_Ledger___eq__) f cdv A outer s H E) E (defBody s_Ledger___eq__) (PN.w_Ledger___eq__ z) :=
  (ass_one (as_ret (ae_and (ae_b (dIsiO_ok T.i_Ledger) T.z_isinstance bb_isinstance (aa_cons (ae_var 1) (aa_cons (ae_glob T.v_Ledger) aa_nil))) (ae_one (ae_eqK c (ae_fld T.k_Ledger T.n_Ledger_amounts (ae_var 0)) (ae_fld T.k_Ledger T.n_Ledger_amounts (ae_var 1)))))))
theorem d__law_pen {z : Ad} (T : Txt K mg z)  {f : Addr} (cdv : Value) (A : Around) (outer : List PySem.Env) (s : Shared) (H : Hp) (E : XK) (c : Cg false (cxOf (L2.CX P w) P w K mg base N__law_pen "_law_pen" (defScope s__law_pen) f cdv A outer s H E) E 0) :
    ASs (cxOf (L2.CX P w) P w K mg base N__law_pen "_law_pen" (defScope s__law_pen) f cdv A outer s H E) E (defBody s__law_pen) (F4.w__law_pen z) :=
  (ass_one (as_ret (ae_lst true (aa_cons (ae_bt (dListOf_ok (m := false)) T.z_list bb_list (aa_cons (ae_sl false (ae_var 0) ao_none (ao_some ae_int)) aa_nil)) (aa_cons ae_int (aa_cons ae_int aa_nil))))))
theorem d__law_draw {z : Ad} (T : Txt K mg z)  {f : Addr} (cdv : Value) (A : Around) (outer : List PySem.Env) (s : Shared) (H : Hp) (E : XK) (c : Cg false (cxOf (L2.CX P w) P w K mg base N__law_draw "_law_draw" (defScope s__law_draw) f cdv A outer s H E) E 0) :
    ASs (cxOf (L2.CX P w) P w K mg base N__law_draw "_law_draw" (defScope s__law_draw) f cdv A outer s H E) E (defBody s__law_draw) (F4.w__law_draw z) :=
  (ass_cons (as_if (at_gt (ae_ix (ae_var 0) ae_int) ae_int) (ass_cons (as_set 2 c.nd (ae_mod (ae_ix (ae_var 0) ae_int) (ae_var 1)))
    (ass_cons (as_asg (ae_div (ae_ix (ae_var 0) ae_int) (ae_var 1)) (ag_subL (ae_var 0) ae_int (fun _ => rfl)))
    (ass_one (as_ret (ae_var 2))))) ass_nil)
    (ass_cons (as_set 3 c.nd (ae_ix (ae_var 0) ae_int))
    (ass_cons (as_asg (ae_add false (ae_var 3) ae_int) (ag_subL (ae_var 0) ae_int (fun _ => rfl)))
    (ass_cons (as_set 4 c.nd (ae_add false (ae_mul false ae_int (ae_var 3)) ae_int))
    (ass_cons (as_if (at_ne c (ae_ix (ae_var 0) ae_int) (ae_lst false aa_nil)) (ass_one (as_set 4 c.nd (ae_ix (ae_ix (ae_var 0) ae_int) (ae_mod (ae_var 3) (ae_b dLen_ok T.z_len bb_len (aa_cons (ae_ix (ae_var 0) ae_int) aa_nil)))))) ass_nil)
    (ass_cons (as_if (AW.at (aw_and (at_lt (ae_var 3) (ae_b dLen_ok T.z_len bb_len (aa_cons (ae_ix (ae_var 0) ae_int) aa_nil))) (aw_and1 (at_ge (ae_b dAbs_ok T.z_abs bb_abs (aa_cons (ae_var 4) aa_nil)) (ae_pow ae_int ae_int))))) (ass_cons (as_set 5 c.nd (ae_add false (ae_mul false ae_int (ae_b dAbs_ok T.z_abs bb_abs (aa_cons (ae_var 4) aa_nil))) (ae_bt dInt_ok T.z_int bb_int (aa_cons (ae_lt (ae_var 4) ae_int) aa_nil))))
    (ass_cons (as_asg (ae_div (ae_var 5) (ae_var 1)) (ag_subL (ae_var 0) ae_int (fun _ => rfl)))
    (ass_one (as_ret (ae_mod (ae_var 5) (ae_var 1)))))) ass_nil)
    (ass_cons (as_set 6 c.nd (ae_mod (ae_pow (ae_add false (ae_add false (ae_mod (ae_var 4) ae_int) (ae_mul false ae_int (ae_var 3))) ae_int) ae_int) ae_int))
    (ass_cons (as_set 6 c.nd (ae_mod (ae_pow (ae_add false (ae_add false (ae_mul false (ae_var 6) (ae_add false (ae_var 3) ae_int)) (ae_mul false (ae_mul false ae_int (ae_var 3)) (ae_var 3))) ae_int) ae_int) ae_int))
    (ass_one (as_ret (ae_mod (ae_div (ae_var 6) ae_int) (ae_var 1))))))))))))
theorem d__law_word {z : Ad} (T : Txt K mg z)  {f : Addr} (cdv : Value) (A : Around) (outer : List PySem.Env) (s : Shared) (H : Hp) (E : XK) (c : Cg false (cxOf (L2.CX P w) P w K mg base N__law_word "_law_word" (defScope s__law_word) f cdv A outer s H E) E 0) :
    ASs (cxOf (L2.CX P w) P w K mg base N__law_word "_law_word" (defScope s__law_word) f cdv A outer s H E) E (defBody s__law_word) (w__law_word z) :=
  (ass_cons (as_set 1 c.nd (ae_lst false (aa_cons (ae_b (dIsX_ok T.xtab) T.z_isinstance bb_isinstance (aa_cons (ae_var 0) (aa_cons (ae_glob T.v_InvalidMode) aa_nil))) (aa_cons (ae_b (dIsX_ok T.xtab) T.z_isinstance bb_isinstance (aa_cons (ae_var 0) (aa_cons (ae_glob T.v_InvalidNumber) aa_nil))) (aa_cons (ae_b (dIsX_ok T.xtab) T.z_isinstance bb_isinstance (aa_cons (ae_var 0) (aa_cons (ae_glob T.v_InvalidCapacity) aa_nil))) aa_nil)))))
    (ass_cons (as_set 1 c.nd (ae_add false (ae_var 1) (ae_lst false (aa_cons (ae_b (dIsX_ok T.xtab) T.z_isinstance bb_isinstance (aa_cons (ae_var 0) (aa_cons (ae_glob T.v_InvalidReading) aa_nil))) (aa_cons (ae_b (dIsX_ok T.xtab) T.z_isinstance bb_isinstance (aa_cons (ae_var 0) (aa_cons (ae_glob T.v_InvalidBound) aa_nil))) (aa_cons (ae_b (dIsX_ok T.xtab) T.z_isinstance bb_isinstance (aa_cons (ae_var 0) (aa_cons (ae_glob T.v_InvalidProgram) aa_nil))) aa_nil))))))
    (ass_cons (as_set 1 c.nd (ae_add false (ae_var 1) (ae_lst false (aa_cons (ae_b (dIsX_ok T.xtab) T.z_isinstance bb_isinstance (aa_cons (ae_var 0) (aa_cons (ae_glob T.v_InvalidRow) aa_nil))) (aa_cons (ae_b (dIsX_ok T.xtab) T.z_isinstance bb_isinstance (aa_cons (ae_var 0) (aa_cons (ae_glob T.v_InvalidTable) aa_nil))) (aa_cons (ae_b (dIsX_ok T.xtab) T.z_isinstance bb_isinstance (aa_cons (ae_var 0) (aa_cons (ae_glob T.v_InvalidAccount) aa_nil))) aa_nil))))))
    (ass_cons (as_set 1 c.nd (ae_add false (ae_var 1) (ae_lst false (aa_cons (ae_b (dIsX_ok T.xtab) T.z_isinstance bb_isinstance (aa_cons (ae_var 0) (aa_cons (ae_glob T.v_InvalidText) aa_nil))) (aa_cons (ae_b (dIsX_ok T.xtab) T.z_isinstance bb_isinstance (aa_cons (ae_var 0) (aa_cons (ae_glob T.v_Lossy) aa_nil))) (aa_cons (ae_b (dIsX_ok T.xtab) T.z_isinstance bb_isinstance (aa_cons (ae_var 0) (aa_cons (ae_glob T.v_DifferentModes) aa_nil))) aa_nil))))))
    (ass_cons (as_set 1 c.nd (ae_add false (ae_var 1) (ae_lst false (aa_cons (ae_b (dIsX_ok T.xtab) T.z_isinstance bb_isinstance (aa_cons (ae_var 0) (aa_cons (ae_glob T.v_Contradiction) aa_nil))) (aa_cons (ae_b (dIsX_ok T.xtab) T.z_isinstance bb_isinstance (aa_cons (ae_var 0) (aa_cons (ae_glob T.v_UnknownCommand) aa_nil))) (aa_cons (ae_b (dIsX_ok T.xtab) T.z_isinstance bb_isinstance (aa_cons (ae_var 0) (aa_cons (ae_glob T.v_TooLarge) aa_nil))) aa_nil))))))
    (ass_cons (as_set 1 c.nd (ae_add false (ae_var 1) (ae_lst false (aa_cons (ae_b (dIsX_ok T.xtab) T.z_isinstance bb_isinstance (aa_cons (ae_var 0) (aa_cons (ae_glob T.v_TooLong) aa_nil))) (aa_cons (ae_b (dIsX_ok T.xtab) T.z_isinstance bb_isinstance (aa_cons (ae_var 0) (aa_cons (ae_glob T.v_TooManyProcesses) aa_nil))) (aa_cons (ae_b (dIsX_ok T.xtab) T.z_isinstance bb_isinstance (aa_cons (ae_var 0) (aa_cons (ae_glob T.v_Full) aa_nil))) aa_nil))))))
    (ass_cons (as_set 1 c.nd (ae_add false (ae_var 1) (ae_lst false (aa_cons (ae_b (dIsX_ok T.xtab) T.z_isinstance bb_isinstance (aa_cons (ae_var 0) (aa_cons (ae_glob T.v_NoPlace) aa_nil))) (aa_cons (ae_b (dIsX_ok T.xtab) T.z_isinstance bb_isinstance (aa_cons (ae_var 0) (aa_cons (ae_glob T.v_NoPoint) aa_nil))) (aa_cons (ae_b (dIsX_ok T.xtab) T.z_isinstance bb_isinstance (aa_cons (ae_var 0) (aa_cons (ae_glob T.v_NoReading) aa_nil))) aa_nil))))))
    (ass_cons (as_set 1 c.nd (ae_add false (ae_var 1) (ae_lst false (aa_cons (ae_b (dIsX_ok T.xtab) T.z_isinstance bb_isinstance (aa_cons (ae_var 0) (aa_cons (ae_glob T.v_NoName) aa_nil))) (aa_cons (ae_b (dIsX_ok T.xtab) T.z_isinstance bb_isinstance (aa_cons (ae_var 0) (aa_cons (ae_glob T.v_NothingToUndo) aa_nil))) (aa_cons (ae_b (dIsX_ok T.xtab) T.z_isinstance bb_isinstance (aa_cons (ae_var 0) (aa_cons (ae_glob T.v_Finished) aa_nil))) aa_nil))))))
    (ass_cons (as_if (at_ne c (ae_countB (ae_var 1) (aa_cons ae_bl aa_nil)) ae_int) (ass_one (as_ret ae_str)) ass_nil)
    (ass_cons (as_set 2 c.nd (ae_indexB (ae_var 1) (aa_cons ae_bl aa_nil)))
    (ass_cons (as_set 3 c.nd (ae_lst true (aa_cons (ae_b (dIsX_ok T.xtab) T.z_isinstance bb_isinstance (aa_cons (ae_var 0) (aa_cons (ae_glob T.v_EchoError) aa_nil))) (aa_cons (ae_b (dIsX_ok T.xtab) T.z_isinstance bb_isinstance (aa_cons (ae_var 0) (aa_cons (ae_glob T.v_SizeError) aa_nil))) (aa_cons (ae_b (dIsX_ok T.xtab) T.z_isinstance bb_isinstance (aa_cons (ae_var 0) (aa_cons (ae_glob T.v_AbsentError) aa_nil))) aa_nil)))))
    (ass_cons (as_expr (ae_append (ae_var 3) (aa_cons (ae_ix (ae_lst false (aa_cons (ae_b (dIsX_ok T.xtab) T.z_isinstance bb_isinstance (aa_cons (ae_var 0) (aa_cons (ae_ty T.z_ValueError (by decide +kernel)) aa_nil))) (aa_cons (ae_b (dIsX_ok T.xtab) T.z_isinstance bb_isinstance (aa_cons (ae_var 0) (aa_cons (ae_ty T.z_OverflowError (by decide +kernel)) aa_nil))) (aa_cons (ae_b (dIsX_ok T.xtab) T.z_isinstance bb_isinstance (aa_cons (ae_var 0) (aa_cons (ae_ty T.z_LookupError (by decide +kernel)) aa_nil))) aa_nil)))) (ae_add false (ae_bt dInt_ok T.z_int bb_int (aa_cons (ae_gt (ae_var 2) ae_int) aa_nil)) (ae_bt dInt_ok T.z_int bb_int (aa_cons (ae_gt (ae_var 2) ae_int) aa_nil)))) aa_nil)))
    (ass_cons (as_set 4 c.nd (ae_lst false (aa_cons ae_str (aa_cons ae_str (aa_cons ae_str (aa_cons ae_str (aa_cons ae_str (aa_cons ae_str (aa_cons ae_str (aa_cons ae_str (aa_cons ae_str (aa_cons ae_str (aa_cons ae_str aa_nil)))))))))))))
    (ass_cons (as_set 4 c.nd (ae_add false (ae_var 4) (ae_lst false (aa_cons ae_str (aa_cons ae_str (aa_cons ae_str (aa_cons ae_str (aa_cons ae_str (aa_cons ae_str (aa_cons ae_str (aa_cons ae_str (aa_cons ae_str (aa_cons ae_str aa_nil)))))))))))))
    (ass_cons (as_set 4 c.nd (ae_add false (ae_var 4) (ae_lst false (aa_cons ae_str (aa_cons ae_str (aa_cons ae_str aa_nil))))))
    (ass_one (as_ret (ae_if (at_eq c (ae_var 3) (ae_lst false (aa_cons (ae_lt (ae_var 2) ae_int) (aa_cons (ae_chain2 dCmpI_ok dCmpI_ok op_lt op_lt ae_int (ae_var 2) ae_int) (aa_cons (ae_gt (ae_var 2) ae_int) (aa_cons ae_bl aa_nil)))))) (ae_ix (ae_var 4) (ae_var 2)) ae_str))))))))))))))))))
theorem d__law_field {z : Ad} (T : Txt K mg z) (C__law_more_field : Cal false P w K mg base "_law_more_field" 1 2 [] (fun ds _ => ds) (S__law_more_field z)) {f : Addr} (cdv : Value) (A : Around) (outer : List PySem.Env) (s : Shared) (H : Hp) (E : XK) (c : Cg false (cxOf (L2.CX P w) P w K mg base N__law_field "_law_field" (defScope s__law_field) f cdv A outer s H E) E 1) :
    ASs (cxOf (L2.CX P w) P w K mg base N__law_field "_law_field" (defScope s__law_field) f cdv A outer s H E) E (defBody s__law_field) (w__law_field z) :=
  (ass_cons (as_if (at_in (ae_var 0) (ae_tup (aa_cons ae_str (aa_cons ae_str (aa_cons ae_str (aa_cons ae_str (aa_cons ae_str aa_nil))))))) (ass_one (as_ret (ae_lst false (aa_cons (ae_xfld T.xf_value (ae_var 1)) aa_nil)))) ass_nil)
    (ass_cons (as_if (at_in (ae_var 0) (ae_tup (aa_cons ae_str (aa_cons ae_str aa_nil)))) (ass_one (as_ret (ae_lst false (aa_cons (ae_xfld T.xf_place (ae_var 1)) aa_nil)))) ass_nil)
    (ass_cons (as_if (at_in (ae_var 0) (ae_tup (aa_cons ae_str (aa_cons ae_str aa_nil)))) (ass_one (as_ret (ae_lst false (aa_cons (ae_xfld T.xf_index (ae_var 1)) aa_nil)))) ass_nil)
    (ass_cons (as_if (at_in (ae_var 0) (ae_tup (aa_cons ae_str (aa_cons ae_str aa_nil)))) (ass_one (as_ret (ae_lst false (aa_cons (ae_xfld T.xf_point (ae_var 1)) aa_nil)))) ass_nil)
    (ass_cons (as_if (at_eq c (ae_var 0) ae_str) (ass_one (as_ret (ae_lst false (aa_cons (ae_xfld T.xf_line (ae_var 1)) (aa_cons (ae_xfld T.xf_word (ae_var 1)) aa_nil))))) ass_nil)
    (ass_cons (as_if (at_eq c (ae_var 0) ae_str) (ass_one (as_ret (ae_lst false (aa_cons (ae_xfld T.xf_first (ae_var 1)) (aa_cons (ae_xfld T.xf_second (ae_var 1)) aa_nil))))) ass_nil)
    (ass_cons (as_if (at_eq c (ae_var 0) ae_str) (ass_one (as_ret (ae_lst false (aa_cons (ae_xfld T.xf_command (ae_var 1)) aa_nil)))) ass_nil)
    (ass_cons (as_if (at_eq c (ae_var 0) ae_str) (ass_one (as_ret (ae_lst false (aa_cons (ae_xfld T.xf_points (ae_var 1)) aa_nil)))) ass_nil)
    (ass_cons (as_if (at_eq c (ae_var 0) ae_str) (ass_one (as_ret (ae_lst false (aa_cons (ae_xfld T.xf_length (ae_var 1)) aa_nil)))) ass_nil)
    (ass_one (as_ret (ae_call c C__law_more_field (by decide) (by decide) (aa_cons (ae_var 0) (aa_cons (ae_var 1) aa_nil))))))))))))))
theorem d__law_more_field {z : Ad} (T : Txt K mg z)  {f : Addr} (cdv : Value) (A : Around) (outer : List PySem.Env) (s : Shared) (H : Hp) (E : XK) (c : Cg false (cxOf (L2.CX P w) P w K mg base N__law_more_field "_law_more_field" (defScope s__law_more_field) f cdv A outer s H E) E 0) :
    ASs (cxOf (L2.CX P w) P w K mg base N__law_more_field "_law_more_field" (defScope s__law_more_field) f cdv A outer s H E) E (defBody s__law_more_field) (w__law_more_field z) :=
  (ass_cons (as_if (at_eq c (ae_var 0) ae_str) (ass_one (as_ret (ae_lst false (aa_cons (ae_xfld T.xf_number (ae_var 1)) aa_nil)))) ass_nil)
    (ass_cons (as_if (at_eq c (ae_var 0) ae_str) (ass_one (as_ret (ae_lst false (aa_cons (ae_xfld T.xf_limit (ae_var 1)) aa_nil)))) ass_nil)
    (ass_cons (as_if (at_eq c (ae_var 0) ae_str) (ass_one (as_ret (ae_lst false (aa_cons (ae_xfld T.xf_asked (ae_var 1)) aa_nil)))) ass_nil)
    (ass_cons (as_if (at_eq c (ae_var 0) ae_str) (ass_one (as_ret (ae_lst false (aa_cons (ae_xfld T.xf_name (ae_var 1)) aa_nil)))) ass_nil)
    (ass_one (as_ret (ae_if (at_eq c (ae_var 0) ae_str) (ae_lst false (aa_cons (ae_xfld T.xf_count (ae_var 1)) aa_nil)) (ae_lst false aa_nil))))))))
theorem d__law_heard {z : Ad} (T : Txt K mg z) (C__law_field : Cal false P w K mg base "_law_field" 2 2 [] (fun ds _ => ds) (S__law_field z)) (C__law_word : Cal false P w K mg base "_law_word" 1 1 [] (fun ds _ => ds) (S__law_word z)) {f : Addr} (d : D) (tl : Thk) (cdv : Value) (A : Around) (outer : List PySem.Env) (s : Shared) (H : Hp) (E : XK) (c : Cg false (cxOf (L2.CX P w) P w K mg base N__law_heard "_law_heard" (defScope s__law_heard) f cdv A outer s H E) E 2) (act : ActOk (cxOf (L2.CX P w) P w K mg base N__law_heard "_law_heard" (defScope s__law_heard) f cdv A outer s H E) "_law_ask" d tl) :
    ASs (cxOf (L2.CX P w) P w K mg base N__law_heard "_law_heard" (defScope s__law_heard) f cdv A outer s H E) E (defBody s__law_heard) (w__law_heard z d tl) :=
  (ass_cons (as_set 1 c.nd ae_non)
    (ass_cons (as_try 2 1 c T.xerr T.xg_EchoError T.xg_SizeError T.xg_AbsentError (fun pn xe E' tk c => (ass_one (as_ret (ae_lst false (aa_cons (act pn xe E' _ _ tk) aa_nil))))) (by decide))
    (ass_cons (as_set 3 c.nd (ae_call c C__law_word (by decide) (by decide) (aa_cons (ae_var 1) aa_nil)))
    (ass_one (as_ret (ae_bt dTupOf_ok T.z_tuple bb_tuple (aa_cons (ae_add false (ae_lst false (aa_cons (ae_var 3) aa_nil)) (ae_call c C__law_field (by decide) (by decide) (aa_cons (ae_var 3) (aa_cons (ae_var 1) aa_nil)))) aa_nil)))))))
theorem d__law_offset {z : Ad} (T : Txt K mg z) (C__law_draw : Cal false P w K mg base "_law_draw" 1 2 [] (fun ds _ => ds) (F4.S__law_draw z)) {f : Addr} (cdv : Value) (A : Around) (outer : List PySem.Env) (s : Shared) (H : Hp) (E : XK) (c : Cg false (cxOf (L2.CX P w) P w K mg base N__law_offset "_law_offset" (defScope s__law_offset) f cdv A outer s H E) E 1) :
    ASs (cxOf (L2.CX P w) P w K mg base N__law_offset "_law_offset" (defScope s__law_offset) f cdv A outer s H E) E (defBody s__law_offset) (w__law_offset z) :=
  (ass_one (as_ret (ae_ix (ae_lst false (aa_cons (ae_call c C__law_draw (by decide) (by decide) (aa_cons (ae_var 0) (aa_cons ae_int aa_nil))) (aa_cons (ae_call c C__law_draw (by decide) (by decide) (aa_cons (ae_var 0) (aa_cons ae_int aa_nil))) (aa_cons (ae_sub (ae_pow ae_int ae_int) (ae_call c C__law_draw (by decide) (by decide) (aa_cons (ae_var 0) (aa_cons ae_int aa_nil)))) (aa_cons ae_int aa_nil))))) (ae_call c C__law_draw (by decide) (by decide) (aa_cons (ae_var 0) (aa_cons ae_int aa_nil))))))
theorem d__law_amount {z : Ad} (T : Txt K mg z) (C__law_draw : Cal false P w K mg base "_law_draw" 1 2 [] (fun ds _ => ds) (F4.S__law_draw z)) {f : Addr} (cdv : Value) (A : Around) (outer : List PySem.Env) (s : Shared) (H : Hp) (E : XK) (c : Cg false (cxOf (L2.CX P w) P w K mg base N__law_amount "_law_amount" (defScope s__law_amount) f cdv A outer s H E) E 1) :
    ASs (cxOf (L2.CX P w) P w K mg base N__law_amount "_law_amount" (defScope s__law_amount) f cdv A outer s H E) E (defBody s__law_amount) (w__law_amount z) :=
  (ass_cons (as_set 1 c.nd (ae_lst false (aa_cons (ae_sub (ae_call c C__law_draw (by decide) (by decide) (aa_cons (ae_var 0) (aa_cons ae_int aa_nil))) ae_int) (aa_cons (ae_sub (ae_pow ae_int ae_int) (ae_call c C__law_draw (by decide) (by decide) (aa_cons (ae_var 0) (aa_cons ae_int aa_nil)))) (aa_cons (ae_sub ae_int (ae_mul false (ae_pow ae_int ae_int) (ae_pow ae_int ae_int))) (aa_cons (ae_ix (ae_lst false (aa_cons ae_int (aa_cons (ae_neg ae_int) aa_nil))) (ae_call c C__law_draw (by decide) (by decide) (aa_cons (ae_var 0) (aa_cons ae_int aa_nil)))) aa_nil))))))
    (ass_one (as_ret (ae_ix (ae_var 1) (ae_ix (ae_lst false (aa_cons ae_int (aa_cons ae_int (aa_cons ae_int (aa_cons ae_int (aa_cons ae_int (aa_cons ae_int aa_nil))))))) (ae_call c C__law_draw (by decide) (by decide) (aa_cons (ae_var 0) (aa_cons ae_int aa_nil))))))))
theorem d__law_rows {z : Ad} (T : Txt K mg z) (C__law_amount : Cal false P w K mg base "_law_amount" 2 1 [] (fun ds _ => ds) (S__law_amount z)) (C__law_draw : Cal false P w K mg base "_law_draw" 1 2 [] (fun ds _ => ds) (F4.S__law_draw z)) (C__law_offset : Cal false P w K mg base "_law_offset" 2 1 [] (fun ds _ => ds) (S__law_offset z)) {f : Addr} (cdv : Value) (A : Around) (outer : List PySem.Env) (s : Shared) (H : Hp) (E : XK) (c : Cg false (cxOf (L2.CX P w) P w K mg base N__law_rows "_law_rows" (defScope s__law_rows) f cdv A outer s H E) E 2) :
    ASs (cxOf (L2.CX P w) P w K mg base N__law_rows "_law_rows" (defScope s__law_rows) f cdv A outer s H E) E (defBody s__law_rows) (w__law_rows z) :=
  (ass_cons (as_set 2 c.nd (ae_lst true aa_nil))
    (ass_cons (as_for c (ai_rng1 T.z_range (aa_cons (ae_call c C__law_draw (by decide) (by decide) (aa_cons (ae_var 0) (aa_cons (ae_add false (ae_var 1) ae_int) aa_nil))) aa_nil)) (ag_name 3 c.nd) (ass_cons (as_set 4 c.nd (ae_tup (aa_cons (ae_call c C__law_offset (by decide) (by decide) (aa_cons (ae_var 0) aa_nil)) (aa_cons (ae_call c C__law_amount (by decide) (by decide) (aa_cons (ae_var 0) aa_nil)) aa_nil))))
    (ass_cons (as_if (AW.at (aw_and (at_ne c (ae_var 2) (ae_lst false aa_nil)) (aw_and1 (at_eq c (ae_call c C__law_draw (by decide) (by decide) (aa_cons (ae_var 0) (aa_cons ae_int aa_nil))) ae_int)))) (ass_one (as_set 4 c.nd (ae_tup (aa_cons (ae_ix (ae_ix (ae_var 2) (ae_neg ae_int)) ae_int) (aa_cons (ae_sub ae_int (ae_ix (ae_ix (ae_var 2) (ae_neg ae_int)) ae_int)) aa_nil))))) ass_nil)
    (ass_one (as_expr (ae_append (ae_var 2) (aa_cons (ae_var 4) aa_nil)))))))
    (ass_one (as_ret (ae_var 2)))))
theorem d__law_sums {z : Ad} (T : Txt K mg z)  {f : Addr} (cdv : Value) (A : Around) (outer : List PySem.Env) (s : Shared) (H : Hp) (E : XK) (c : Cg false (cxOf (L2.CX P w) P w K mg base N__law_sums "_law_sums" (defScope s__law_sums) f cdv A outer s H E) E 0) :
    ASs (cxOf (L2.CX P w) P w K mg base N__law_sums "_law_sums" (defScope s__law_sums) f cdv A outer s H E) E (defBody s__law_sums) (w__law_sums z) :=
  (ass_cons (as_set 1 c.nd ae_dnew)
    (ass_cons (as_for c (ai_list (ae_var 0)) (ag_tup c.calm (ags_cons (ag_name 2 c.nd) (ags_cons (ag_name 3 c.nd) ags_nil))) (ass_one (as_dput c (ae_var 1) (ae_var 2) (ae_add false (ae_get2 c (ae_var 1) (ae_var 2) ae_int ⟨rfl, rfl, rfl, rfl⟩) (ae_var 3)))))
    (ass_one (as_ret (ae_bt dTupOf_ok T.z_tuple bb_tuple (aa_cons (ae_lc false (own := [("_law_spot", 2)]) c (ai_list (ae_b (dSortD_ok (m := false) c.calm) T.z_sorted PyProof.Rows.boot_sorted (aa_cons (ae_var 1) aa_nil))) (show BlkOk N__law_sums (defScope s__law_sums) _ [("_law_spot", 2)] from ⟨rfl, by decide +kernel, by decide +kernel, by decide +kernel, by decide +kernel⟩) (gw_name (i := 2) (by decide)) (fun s H C cl fp => pg_name (i := 2) c.nd rfl (by first | exact Or.inl rfl | exact Or.inr rfl)) (fun s H C cl fp c => ats_one (at_ne c (ae_dget c (ae_var 1) (ae_var 2) (fun _ _ => rfl)) ae_int)) (fun s H C cl fp c => (ae_tup (aa_cons (ae_var 2) (aa_cons (ae_dget c (ae_var 1) (ae_var 2) (fun _ _ => rfl)) aa_nil))))) aa_nil))))))
theorem d__law_ledger {z : Ad} (T : Txt K mg z) (M_Ledger : MakC P w K mg base "Ledger" z.Ledger 4 (starS 1 (PL.S_Ledger___init__ z))) {f : Addr} (cdv : Value) (A : Around) (outer : List PySem.Env) (s : Shared) (H : Hp) (E : XK) (c : Cg false (cxOf (L2.CX P w) P w K mg base N__law_ledger "_law_ledger" (defScope s__law_ledger) f cdv A outer s H E) E 5) :
    ASs (cxOf (L2.CX P w) P w K mg base N__law_ledger "_law_ledger" (defScope s__law_ledger) f cdv A outer s H E) E (defBody s__law_ledger) (w__law_ledger z) :=
  (ass_cons (as_if (at_lt (ae_b dLen_ok T.z_len bb_len (aa_cons (ae_var 0) aa_nil)) ae_int) (ass_one (as_ret (ae_if (at_ne c (ae_var 0) (ae_lst false aa_nil)) (ag_make c M_Ledger (by decide) (aa_cons (ae_ix (ae_var 0) ae_int) aa_nil)) (ag_make0 c M_Ledger (by decide))))) ass_nil)
    (ass_cons (as_if (at_eq c (ae_b dLen_ok T.z_len bb_len (aa_cons (ae_var 0) aa_nil)) ae_int) (ass_one (as_ret (ag_make c M_Ledger (by decide) (aa_cons (ae_ix (ae_var 0) ae_int) (aa_cons (ae_ix (ae_var 0) ae_int) aa_nil))))) ass_nil)
    (ass_cons (as_if (at_eq c (ae_b dLen_ok T.z_len bb_len (aa_cons (ae_var 0) aa_nil)) ae_int) (ass_one (as_ret (ag_make c M_Ledger (by decide) (aa_cons (ae_ix (ae_var 0) ae_int) (aa_cons (ae_ix (ae_var 0) ae_int) (aa_cons (ae_ix (ae_var 0) ae_int) aa_nil)))))) ass_nil)
    (ass_cons (as_if (at_eq c (ae_b dLen_ok T.z_len bb_len (aa_cons (ae_var 0) aa_nil)) ae_int) (ass_one (as_ret (ag_make c M_Ledger (by decide) (aa_cons (ae_ix (ae_var 0) ae_int) (aa_cons (ae_ix (ae_var 0) ae_int) (aa_cons (ae_ix (ae_var 0) ae_int) (aa_cons (ae_ix (ae_var 0) ae_int) aa_nil))))))) ass_nil)
    (ass_cons (as_if (at_eq c (ae_b dLen_ok T.z_len bb_len (aa_cons (ae_var 0) aa_nil)) ae_int) (ass_one (as_ret (ag_make c M_Ledger (by decide) (aa_cons (ae_ix (ae_var 0) ae_int) (aa_cons (ae_ix (ae_var 0) ae_int) (aa_cons (ae_ix (ae_var 0) ae_int) (aa_cons (ae_ix (ae_var 0) ae_int) (aa_cons (ae_ix (ae_var 0) ae_int) aa_nil)))))))) ass_nil)
    (ass_one (as_ret (ag_make c M_Ledger (by decide) (aa_cons (ae_ix (ae_var 0) ae_int) (aa_cons (ae_ix (ae_var 0) ae_int) (aa_cons (ae_ix (ae_var 0) ae_int) (aa_cons (ae_ix (ae_var 0) ae_int) (aa_cons (ae_ix (ae_var 0) ae_int) (aa_cons (ae_ix (ae_var 0) ae_int) aa_nil))))))))))))))
theorem d__law_moved_right {z : Ad} (T : Txt K mg z) (C__law_draw : Cal false P w K mg base "_law_draw" 1 2 [] (fun ds _ => ds) (F4.S__law_draw z)) (R_Ledger_moved : MetC P w K mg base z.Ledger "moved" 6 (S_Ledger_moved z)) (RK_Ledger_moved_by : MetKC P w K mg base z.Ledger "moved" 6 ["by"] (pickD [0, 1]) (S_Ledger_moved z)) (R_Ledger_rows : PrpC P w K mg base z.Ledger "rows" 1 (PL.S_Ledger_rows z)) (H__law_heard : HCal P w K mg base false "_law_heard" 2 (S__law_heard z)) {cc : Addr} (TB : LamX.TabB base mg cc z.t1) {f : Addr} (A : Around) (outer : List PySem.Env) (s : Shared) (H : Hp) (E : XK) (c : Cg true (cxOf (L2.CX P w) P w K mg base N__law_moved_right "_law_moved_right" (defScope s__law_moved_right) f (.ref cc) A outer s H E) E 8) :
    ASs (cxOf (L2.CX P w) P w K mg base N__law_moved_right "_law_moved_right" (defScope s__law_moved_right) f (.ref cc) A outer s H E) E (defBody s__law_moved_right) (w__law_moved_right z) :=
  (ass_cons (as_for c (ai_rng1 T.z_range (aa_cons ae_int aa_nil)) (ag_name 3 c.nd) (ass_cons (as_set 4 c.nd (ae_ix (ae_lst false (aa_cons (ae_call c C__law_draw (by decide) (by decide) (aa_cons (ae_var 0) (aa_cons ae_int aa_nil))) (aa_cons (ae_sub (ae_pow ae_int ae_int) (ae_if (at_ne c (ae_var 2) (ae_tup aa_nil)) (ae_ix (ae_ix (ae_var 2) (ae_neg ae_int)) ae_int) ae_int)) (aa_cons (ae_pow ae_int ae_int) (aa_cons ae_int aa_nil))))) (ae_call c C__law_draw (by decide) (by decide) (aa_cons (ae_var 0) (aa_cons ae_int aa_nil)))))
    (ass_cons (as_set 4 c.nd (ae_b (dMin2_ok c.calm) T.z_min bb_min (aa_cons (ae_pow ae_int ae_int) (aa_cons (ae_b (dMax2_ok c.calm) T.z_max bb_max (aa_cons ae_int (aa_cons (ae_sub (ae_add false (ae_var 4) (ae_call c C__law_draw (by decide) (by decide) (aa_cons (ae_var 0) (aa_cons ae_int aa_nil)))) ae_int) aa_nil))) aa_nil))))
    (ass_cons (as_set 5 c.nd (ae_heard c H__law_heard (by decide) TB rfl (by decide) (fun A outer s H E' f c' c => (ag_prop c R_Ledger_rows (by decide) (ag_met c R_Ledger_moved (by decide) (ae_var 1) (aa_cons (ae_var 4) aa_nil)))) (LamX.lamS_by (show LamX.lamSB (defScope s__law_moved_right) _ = true from by decide +kernel)) (by decide)))
    (ass_cons (as_set 6 c.nd (ae_lst false (aa_cons (ae_bt dTupOf_ok T.z_tuple bb_tuple (aa_cons (ae_lc false (own := [("_law_spot", 7), ("_law_amount_here", 8)]) c (ai_tup (ae_var 2)) (show BlkOk N__law_moved_right (defScope s__law_moved_right) _ [("_law_spot", 7), ("_law_amount_here", 8)] from ⟨rfl, by decide +kernel, by decide +kernel, by decide +kernel, by decide +kernel⟩) (gw_tup (is := [7, 8]) (by decide)) (fun s H C cl fp => pg_tup c.calm (pgs_cons (pg_name (i := 7) c.nd rfl (by first | exact Or.inl rfl | exact Or.inr rfl)) (pgs_cons (pg_name (i := 8) c.nd rfl (by first | exact Or.inl rfl | exact Or.inr rfl)) pgs_nil))) (fun s H C cl fp c => ats_nil) (fun s H C cl fp c => (ae_tup (aa_cons (ae_add false (ae_var 7) (ae_var 4)) (aa_cons (ae_var 8) aa_nil))))) aa_nil)) aa_nil)))
    (ass_cons (as_if (AW.at (aw_and (at_ne c (ae_var 2) (ae_tup aa_nil)) (aw_and1 (at_gt (ae_add false (ae_ix (ae_ix (ae_var 2) (ae_neg ae_int)) ae_int) (ae_var 4)) (ae_pow ae_int ae_int))))) (ass_one (as_set 6 c.nd (ae_tup (aa_cons ae_str (aa_cons (ae_add false (ae_ix (ae_ix (ae_var 2) (ae_neg ae_int)) ae_int) (ae_var 4)) aa_nil))))) ass_nil)
    (ass_one (as_if (AW.at (aw_or (at_ne c (ae_b (dRepr_ok (c.gd rfl) c.room.units) T.z_repr bb_repr (aa_cons (ae_var 5) aa_nil)) (ae_b (dRepr_ok (c.gd rfl) c.room.units) T.z_repr bb_repr (aa_cons (ae_var 6) aa_nil))) (aw_or1 (at_ne c (ae_b (dRepr_ok (c.gd rfl) c.room.units) T.z_repr bb_repr (aa_cons (ae_heard c H__law_heard (by decide) TB rfl (by decide) (fun A outer s H E' f c' c => (ag_prop c R_Ledger_rows (by decide) (ag_metK c RK_Ledger_moved_by (by decide) (ae_var 1) (ak_cons (ae_var 4) ak_nil)))) (LamX.lamS_by (show LamX.lamSB (defScope s__law_moved_right) _ = true from by decide +kernel)) (by decide)) aa_nil)) (ae_b (dRepr_ok (c.gd rfl) c.room.units) T.z_repr bb_repr (aa_cons (ae_var 6) aa_nil)))))) (ass_one (as_ret ae_bl)) ass_nil))))))))
    (ass_one (as_ret ae_bl)))
theorem d__law_from_right {z : Ad} (T : Txt K mg z) (C__law_draw : Cal false P w K mg base "_law_draw" 1 2 [] (fun ds _ => ds) (F4.S__law_draw z)) (R_Ledger_from_offset : MetC P w K mg base z.Ledger "from_offset" 3 (PB.S_Ledger_from_offset z)) (RK_Ledger_from_offset_offset : MetKC P w K mg base z.Ledger "from_offset" 3 ["offset"] (pickD [0, 1]) (PB.S_Ledger_from_offset z)) {f : Addr} (cdv : Value) (A : Around) (outer : List PySem.Env) (s : Shared) (H : Hp) (E : XK) (c : Cg true (cxOf (L2.CX P w) P w K mg base N__law_from_right "_law_from_right" (defScope s__law_from_right) f cdv A outer s H E) E 3) :
    ASs (cxOf (L2.CX P w) P w K mg base N__law_from_right "_law_from_right" (defScope s__law_from_right) f cdv A outer s H E) E (defBody s__law_from_right) (w__law_from_right z) :=
  (ass_cons (as_set 3 c.nd (ae_add false (ae_lst false (aa_cons ae_int (aa_cons (ae_neg ae_int) (aa_cons (ae_pow ae_int ae_int) (aa_cons (ae_add false (ae_pow ae_int ae_int) ae_int) (aa_cons ae_int (aa_cons ae_int (aa_cons (ae_call c C__law_draw (by decide) (by decide) (aa_cons (ae_var 0) (aa_cons ae_int aa_nil))) aa_nil)))))))) (ae_lc false (own := [("_law_spot", 4), ("_law_amount_here", 6)]) c (ai_tup (ae_var 2)) (show BlkOk N__law_from_right (defScope s__law_from_right) _ [("_law_spot", 4), ("_law_amount_here", 6)] from ⟨rfl, by decide +kernel, by decide +kernel, by decide +kernel, by decide +kernel⟩) (gw_tup (is := [4, 6]) (by decide)) (fun s H C cl fp => pg_tup c.calm (pgs_cons (pg_name (i := 4) c.nd rfl (by first | exact Or.inl rfl | exact Or.inr rfl)) (pgs_cons (pg_name (i := 6) c.nd rfl (by first | exact Or.inl rfl | exact Or.inr rfl)) pgs_nil))) (fun s H C cl fp c => ats_nil) (fun s H C cl fp c => (ae_var 4)))))
    (ass_cons (as_for c (ai_list (ae_var 3)) (ag_name 4 c.nd) (ass_cons (as_set 5 c.nd (ae_b (dSum_ok c.calm) T.z_sum bb_sum (aa_cons (ae_lc false (own := [("_law_place", 7), ("_law_amount_here", 6)]) c (ai_tup (ae_var 2)) (show BlkOk N__law_from_right (defScope s__law_from_right) _ [("_law_place", 7), ("_law_amount_here", 6)] from ⟨rfl, by decide +kernel, by decide +kernel, by decide +kernel, by decide +kernel⟩) (gw_tup (is := [7, 6]) (by decide)) (fun s H C cl fp => pg_tup c.calm (pgs_cons (pg_name (i := 7) c.nd rfl (by first | exact Or.inl rfl | exact Or.inr rfl)) (pgs_cons (pg_name (i := 6) c.nd rfl (by first | exact Or.inl rfl | exact Or.inr rfl)) pgs_nil))) (fun s H C cl fp c => ats_one (at_ge (ae_var 7) (ae_var 4))) (fun s H C cl fp c => (ae_var 6))) aa_nil)))
    (ass_one (as_if (at_ne c (ae_b (dRepr_ok (c.gd rfl) c.room.units) T.z_repr bb_repr (aa_cons (ae_lst false (aa_cons (ag_met c R_Ledger_from_offset (by decide) (ae_var 1) (aa_cons (ae_var 4) aa_nil)) (aa_cons (ag_metK c RK_Ledger_from_offset_offset (by decide) (ae_var 1) (ak_cons (ae_var 4) ak_nil)) aa_nil))) aa_nil)) (ae_b (dRepr_ok (c.gd rfl) c.room.units) T.z_repr bb_repr (aa_cons (ae_lst false (aa_cons (ae_var 5) (aa_cons (ae_var 5) aa_nil))) aa_nil))) (ass_one (as_ret ae_bl)) ass_nil))))
    (ass_one (as_ret ae_bl))))
theorem d__law_capacity {z : Ad} (T : Txt K mg z) (C__law_draw : Cal false P w K mg base "_law_draw" 1 2 [] (fun ds _ => ds) (F4.S__law_draw z)) {f : Addr} (cdv : Value) (A : Around) (outer : List PySem.Env) (s : Shared) (H : Hp) (E : XK) (c : Cg false (cxOf (L2.CX P w) P w K mg base N__law_capacity "_law_capacity" (defScope s__law_capacity) f cdv A outer s H E) E 1) :
    ASs (cxOf (L2.CX P w) P w K mg base N__law_capacity "_law_capacity" (defScope s__law_capacity) f cdv A outer s H E) E (defBody s__law_capacity) (w__law_capacity z) :=
  (ass_cons (as_set 2 c.nd (ae_lst true (aa_cons (ae_add false ae_int (ae_call c C__law_draw (by decide) (by decide) (aa_cons (ae_var 0) (aa_cons ae_int aa_nil)))) (aa_cons (ae_add false ae_int (ae_call c C__law_draw (by decide) (by decide) (aa_cons (ae_var 0) (aa_cons ae_int aa_nil)))) (aa_cons (ae_add false (ae_pow ae_int ae_int) (ae_call c C__law_draw (by decide) (by decide) (aa_cons (ae_var 0) (aa_cons ae_int aa_nil)))) (aa_cons (ae_pow ae_int ae_int) aa_nil))))))
    (ass_cons (as_expr (ae_append (ae_var 2) (aa_cons (ae_add false ae_int (ae_call c C__law_draw (by decide) (by decide) (aa_cons (ae_var 0) (aa_cons (ae_pow ae_int ae_int) aa_nil)))) aa_nil)))
    (ass_cons (as_set 3 c.nd (ae_ix (ae_add false (ae_lst false (aa_cons ae_int aa_nil)) (ae_var 1)) (ae_call c C__law_draw (by decide) (by decide) (aa_cons (ae_var 0) (aa_cons (ae_add false (ae_b dLen_ok T.z_len bb_len (aa_cons (ae_var 1) aa_nil)) ae_int) aa_nil)))))
    (ass_cons (as_expr (ae_append (ae_var 2) (aa_cons (ae_b (dMax2_ok c.calm) T.z_max bb_max (aa_cons ae_int (aa_cons (ae_sub (ae_add false (ae_var 3) (ae_call c C__law_draw (by decide) (by decide) (aa_cons (ae_var 0) (aa_cons ae_int aa_nil)))) ae_int) aa_nil))) aa_nil)))
    (ass_one (as_ret (ae_ix (ae_var 2) (ae_call c C__law_draw (by decide) (by decide) (aa_cons (ae_var 0) (aa_cons ae_int aa_nil))))))))))
theorem d__law_no_capacity {z : Ad} (T : Txt K mg z) (C__law_draw : Cal false P w K mg base "_law_draw" 1 2 [] (fun ds _ => ds) (F4.S__law_draw z)) {f : Addr} (cdv : Value) (A : Around) (outer : List PySem.Env) (s : Shared) (H : Hp) (E : XK) (c : Cg false (cxOf (L2.CX P w) P w K mg base N__law_no_capacity "_law_no_capacity" (defScope s__law_no_capacity) f cdv A outer s H E) E 1) :
    ASs (cxOf (L2.CX P w) P w K mg base N__law_no_capacity "_law_no_capacity" (defScope s__law_no_capacity) f cdv A outer s H E) E (defBody s__law_no_capacity) (w__law_no_capacity z) :=
  (ass_cons (as_set 1 c.nd (ae_lst false (aa_cons ae_int (aa_cons (ae_neg ae_int) (aa_cons (ae_add false (ae_pow ae_int ae_int) ae_int) (aa_cons ae_bl (aa_cons ae_bl (aa_cons ae_non (aa_cons ae_str (aa_cons (ae_tup (aa_cons ae_int aa_nil)) (aa_cons (ae_lst false (aa_cons ae_int aa_nil)) (aa_cons ae_dnewF (aa_cons (ae_pow ae_int ae_int) (aa_cons ae_str (aa_cons (ae_tup (aa_cons (ae_lst false (aa_cons ae_int aa_nil)) aa_nil)) aa_nil)))))))))))))))
    (ass_one (as_ret (ae_ix (ae_var 1) (ae_call c C__law_draw (by decide) (by decide) (aa_cons (ae_var 0) (aa_cons ae_int aa_nil)))))))
theorem d__law_due {z : Ad} (T : Txt K mg z)  {f : Addr} (cdv : Value) (A : Around) (outer : List PySem.Env) (s : Shared) (H : Hp) (E : XK) (c : Cg false (cxOf (L2.CX P w) P w K mg base N__law_due "_law_due" (defScope s__law_due) f cdv A outer s H E) E 0) :
    ASs (cxOf (L2.CX P w) P w K mg base N__law_due "_law_due" (defScope s__law_due) f cdv A outer s H E) E (defBody s__law_due) (w__law_due z) :=
  (ass_cons (as_set 2 c.nd ae_int)
    (ass_cons (as_for c (ai_list (ae_var 0)) (ag_tup c.calm (ags_cons (ag_name 3 c.nd) (ags_cons (ag_name 4 c.nd) ags_nil))) (ass_one (as_set 2 c.nd (ae_add false (ae_var 2) (ae_mul false (ae_var 4) (ae_sub (ae_var 3) (ae_mul false (ae_div (ae_var 3) (ae_var 1)) (ae_var 1))))))))
    (ass_one (as_ret (ae_var 2)))))
theorem d__law_called_right {z : Ad} (T : Txt K mg z) (C__law_capacity : Cal false P w K mg base "_law_capacity" 2 2 [] (fun ds _ => ds) (S__law_capacity z)) (C__law_due : Cal false P w K mg base "_law_due" 1 2 [] (fun ds _ => ds) (S__law_due z)) (C__law_ledger : Cal false P w K mg base "_law_ledger" 6 1 [] (fun ds _ => ds) (S__law_ledger z)) (C__law_no_capacity : Cal false P w K mg base "_law_no_capacity" 2 1 [] (fun ds _ => ds) (S__law_no_capacity z)) (R_Ledger___call__ : CalC P w K mg base z.Ledger 4 (S_Ledger___call__ z)) (RK_Ledger___call___capacity : CalKC P w K mg base z.Ledger 4 ["capacity"] (pickD [0, 1]) (S_Ledger___call__ z)) (R_Ledger___add__ : Op2C P w K mg base z.Ledger .Add 6 (PL.S_Ledger___add__ z)) (R_Ledger___mul__ : OpIC P w K mg base z.Ledger .Mult 6 (S_Ledger___mul__ z)) (H__law_heard : HCal P w K mg base false "_law_heard" 2 (S__law_heard z)) {cc : Addr} (TB : LamX.TabB base mg cc z.t0) {f : Addr} (A : Around) (outer : List PySem.Env) (s : Shared) (H : Hp) (E : XK) (c : Cg true (cxOf (L2.CX P w) P w K mg base N__law_called_right "_law_called_right" (defScope s__law_called_right) f (.ref cc) A outer s H E) E 6) :
    ASs (cxOf (L2.CX P w) P w K mg base N__law_called_right "_law_called_right" (defScope s__law_called_right) f (.ref cc) A outer s H E) E (defBody s__law_called_right) (w__law_called_right z) :=
  (ass_cons (as_asg (ae_tup (aa_cons (ae_call c C__law_ledger (by decide) (by decide) (aa_cons (ae_var 1) aa_nil)) (aa_cons (ae_call c C__law_ledger (by decide) (by decide) (aa_cons (ae_var 2) aa_nil)) aa_nil))) (ag_tup c.calm (ags_cons (ag_name 3 c.nd) (ags_cons (ag_name 4 c.nd) ags_nil))))
    (ass_cons (as_for c (ai_rng1 T.z_range (aa_cons ae_int aa_nil)) (ag_name 5 c.nd) (ass_cons (as_set 6 c.nd (ae_call c C__law_capacity (by decide) (by decide) (aa_cons (ae_var 0) (aa_cons (ae_lc false (own := [("_law_spot", 10), ("_law_amount_here", 11)]) c (ai_list (ae_var 1)) (show BlkOk N__law_called_right (defScope s__law_called_right) _ [("_law_spot", 10), ("_law_amount_here", 11)] from ⟨rfl, by decide +kernel, by decide +kernel, by decide +kernel, by decide +kernel⟩) (gw_tup (is := [10, 11]) (by decide)) (fun s H C cl fp => pg_tup c.calm (pgs_cons (pg_name (i := 10) c.nd rfl (by first | exact Or.inl rfl | exact Or.inr rfl)) (pgs_cons (pg_name (i := 11) c.nd rfl (by first | exact Or.inl rfl | exact Or.inr rfl)) pgs_nil))) (fun s H C cl fp c => ats_nil) (fun s H C cl fp c => (ae_var 10))) aa_nil))))
    (ass_cons (as_set 7 c.nd (ae_call c C__law_due (by decide) (by decide) (aa_cons (ae_var 1) (aa_cons (ae_var 6) aa_nil))))
    (ass_cons (as_if (at_ne c (ae_b (dReprQ_ok (c.gd rfl) c.room.units) T.z_repr bb_repr (aa_cons (ae_lst false (aa_cons (ag_callO c R_Ledger___call__ (by decide) (ae_var 3) (aa_cons (ae_var 6) aa_nil)) (aa_cons (ag_callK c RK_Ledger___call___capacity (by decide) (ae_var 3) (ak_cons (ae_var 6) ak_nil)) aa_nil))) aa_nil)) (ae_b (dReprQ_ok (c.gd rfl) c.room.units) T.z_repr bb_repr (aa_cons (ae_lst false (aa_cons (ae_var 7) (aa_cons (ae_var 7) aa_nil))) aa_nil))) (ass_one (as_ret ae_bl)) ass_nil)
    (ass_cons (as_if (at_ne c (ag_callO c R_Ledger___call__ (by decide) (ag_own2 c R_Ledger___add__ (by decide) (ae_var 3) (ae_var 4)) (aa_cons (ae_var 6) aa_nil)) (ae_add false (ae_var 7) (ae_call c C__law_due (by decide) (by decide) (aa_cons (ae_var 2) (aa_cons (ae_var 6) aa_nil))))) (ass_one (as_ret ae_bl)) ass_nil)
    (ass_one (as_if (at_ne c (ag_callO c R_Ledger___call__ (by decide) (ag_ownI c R_Ledger___mul__ (by decide) (ae_var 3) (ae_neg ae_int)) (aa_cons (ae_var 6) aa_nil)) (ae_mul false (ae_neg ae_int) (ae_var 7))) (ass_one (as_ret ae_bl)) ass_nil)))))))
    (ass_cons (as_set 8 c.nd (ae_b (dSum_ok c.calm) T.z_sum bb_sum (aa_cons (ae_lc false (own := [("_law_spot", 10), ("_law_amount_here", 11)]) c (ai_list (ae_var 1)) (show BlkOk N__law_called_right (defScope s__law_called_right) _ [("_law_spot", 10), ("_law_amount_here", 11)] from ⟨rfl, by decide +kernel, by decide +kernel, by decide +kernel, by decide +kernel⟩) (gw_tup (is := [10, 11]) (by decide)) (fun s H C cl fp => pg_tup c.calm (pgs_cons (pg_name (i := 10) c.nd rfl (by first | exact Or.inl rfl | exact Or.inr rfl)) (pgs_cons (pg_name (i := 11) c.nd rfl (by first | exact Or.inl rfl | exact Or.inr rfl)) pgs_nil))) (fun s H C cl fp c => ats_nil) (fun s H C cl fp c => (ae_mul false (ae_var 10) (ae_var 11)))) aa_nil)))
    (ass_cons (as_if (AW.at (aw_or (at_ne c (ag_callO c R_Ledger___call__ (by decide) (ae_var 3) (aa_cons (ae_pow ae_int ae_int) aa_nil)) (ae_var 8)) (aw_or1 (at_ne c (ag_callO c R_Ledger___call__ (by decide) (ae_var 3) (aa_cons ae_int aa_nil)) ae_int)))) (ass_one (as_ret ae_bl)) ass_nil)
    (ass_cons (as_set 9 c.nd (ae_call c C__law_no_capacity (by decide) (by decide) (aa_cons (ae_var 0) aa_nil)))
    (ass_one (as_ret (ae_eq c (ae_b (dReprQ_ok (c.gd rfl) c.room.units) T.z_repr bb_repr (aa_cons (ae_heard c H__law_heard (by decide) TB rfl (by decide) (fun A outer s H E' f c' c => (ag_callO c R_Ledger___call__ (by decide) (ae_var 3) (aa_cons (ae_var 9) aa_nil))) (LamX.lamS_by (show LamX.lamSB (defScope s__law_called_right) _ = true from by decide +kernel)) (by decide)) aa_nil)) (ae_b (dReprQ_ok (c.gd rfl) c.room.units) T.z_repr bb_repr (aa_cons (ae_tup (aa_cons ae_str (aa_cons (ae_var 9) aa_nil))) aa_nil))))))))))
theorem d_law {z : Ad} (T : Txt K mg z) (C__law_called_right : Cal true P w K mg base "_law_called_right" 7 3 [] (fun ds _ => ds) (S__law_called_right z)) (C__law_draw : Cal false P w K mg base "_law_draw" 1 2 [] (fun ds _ => ds) (F4.S__law_draw z)) (C__law_from_right : Cal true P w K mg base "_law_from_right" 4 3 [] (fun ds _ => ds) (S__law_from_right z)) (C__law_ledger : Cal false P w K mg base "_law_ledger" 6 1 [] (fun ds _ => ds) (S__law_ledger z)) (C__law_moved_right : Cal true P w K mg base "_law_moved_right" 9 3 [] (fun ds _ => ds) (S__law_moved_right z)) (C__law_pen : Cal false P w K mg base "_law_pen" 1 1 [] (fun ds _ => ds) (F4.S__law_pen z)) (C__law_rows : Cal false P w K mg base "_law_rows" 3 2 [] (fun ds _ => ds) (S__law_rows z)) (C__law_sums : Cal false P w K mg base "_law_sums" 1 1 [] (fun ds _ => ds) (S__law_sums z)) (EQ_Ledger : EqC P w K mg base z.Ledger 1 (PN.S_Ledger___eq__ z)) (M_Ledger : MakC P w K mg base "Ledger" z.Ledger 4 (starS 1 (PL.S_Ledger___init__ z))) (R_Ledger___neg__ : NegC P w K mg base z.Ledger 7 (S_Ledger___neg__ z)) (R_Ledger___add__ : Op2C P w K mg base z.Ledger .Add 6 (PL.S_Ledger___add__ z)) (R_Ledger___sub__ : Op2C P w K mg base z.Ledger .Sub 8 (S_Ledger___sub__ z)) (R_Ledger___mul__ : OpIC P w K mg base z.Ledger .Mult 6 (S_Ledger___mul__ z)) (R_Ledger_rows : PrpC P w K mg base z.Ledger "rows" 1 (PL.S_Ledger_rows z)) {f : Addr} (cdv : Value) (A : Around) (outer : List PySem.Env) (s : Shared) (H : Hp) (E : XK) (c : Cg true (cxOf (L2.CX P w) P w K mg base N_law "law" (defScope s_law) f cdv A outer s H E) E 9) :
    ASs (cxOf (L2.CX P w) P w K mg base N_law "law" (defScope s_law) f cdv A outer s H E) E (defBody s_law) (w_law z) :=
  (ass_cons (as_set 1 c.nd (ae_call c C__law_pen (by decide) (by decide) (aa_cons (ae_var 0) aa_nil)))
    (ass_cons (as_for c (ai_rng1 T.z_range (aa_cons ae_int aa_nil)) (ag_name 2 c.nd) (ass_cons (as_par 3 4 c (by decide) (aa_cons (ae_call c C__law_rows (by decide) (by decide) (aa_cons (ae_var 1) (aa_cons ae_int aa_nil))) (aa_cons (ae_call c C__law_rows (by decide) (by decide) (aa_cons (ae_var 1) (aa_cons ae_int aa_nil))) aa_nil)))
    (ass_cons (as_if (at_eq c (ae_call c C__law_draw (by decide) (by decide) (aa_cons (ae_var 1) (aa_cons ae_int aa_nil))) ae_int) (ass_one (as_setLc false 4 (own := [("_law_spot", 11), ("_law_amount_here", 12)]) c (ai_list (ae_var 3)) (show BlkOk N_law (defScope s_law) _ [("_law_spot", 11), ("_law_amount_here", 12)] from ⟨rfl, by decide +kernel, by decide +kernel, by decide +kernel, by decide +kernel⟩) (gw_tup (is := [11, 12]) (by decide)) (fun s H C cl fp => pg_tup c.calm (pgs_cons (pg_name (i := 11) c.nd rfl (by first | exact Or.inl rfl | exact Or.inr rfl)) (pgs_cons (pg_name (i := 12) c.nd rfl (by first | exact Or.inl rfl | exact Or.inr rfl)) pgs_nil))) (fun s H C cl fp c => ats_nil) (fun s H C cl fp c => (ae_tup (aa_cons (ae_var 11) (aa_cons (ae_sub ae_int (ae_var 12)) aa_nil)))))) ass_nil)
    (ass_cons (as_par 5 6 c (by decide) (aa_cons (ae_call c C__law_ledger (by decide) (by decide) (aa_cons (ae_var 3) aa_nil)) (aa_cons (ae_call c C__law_ledger (by decide) (by decide) (aa_cons (ae_var 4) aa_nil)) aa_nil)))
    (ass_cons (as_set 7 c.nd (ae_ix (ae_lst false (aa_cons ae_int (aa_cons ae_int (aa_cons (ae_neg ae_int) (aa_cons (ae_sub (ae_call c C__law_draw (by decide) (by decide) (aa_cons (ae_var 1) (aa_cons ae_int aa_nil))) ae_int) (aa_cons (ae_pow ae_int ae_int) aa_nil)))))) (ae_call c C__law_draw (by decide) (by decide) (aa_cons (ae_var 1) (aa_cons ae_int aa_nil)))))
    (ass_cons (as_setLc false 8 (own := [("_law_spot", 11), ("_law_amount_here", 12)]) c (ai_list (ae_var 4)) (show BlkOk N_law (defScope s_law) _ [("_law_spot", 11), ("_law_amount_here", 12)] from ⟨rfl, by decide +kernel, by decide +kernel, by decide +kernel, by decide +kernel⟩) (gw_tup (is := [11, 12]) (by decide)) (fun s H C cl fp => pg_tup c.calm (pgs_cons (pg_name (i := 11) c.nd rfl (by first | exact Or.inl rfl | exact Or.inr rfl)) (pgs_cons (pg_name (i := 12) c.nd rfl (by first | exact Or.inl rfl | exact Or.inr rfl)) pgs_nil))) (fun s H C cl fp c => ats_nil) (fun s H C cl fp c => (ae_tup (aa_cons (ae_var 11) (aa_cons (ae_sub ae_int (ae_var 12)) aa_nil)))))
    (ass_cons (as_set 9 c.nd (ae_lst true (aa_cons (ae_call c C__law_sums (by decide) (by decide) (aa_cons (ae_add false (ae_var 3) (ae_var 4)) aa_nil)) (aa_cons (ae_call c C__law_sums (by decide) (by decide) (aa_cons (ae_add false (ae_var 3) (ae_var 8)) aa_nil)) (aa_cons (ae_call c C__law_sums (by decide) (by decide) (aa_cons (ae_var 8) aa_nil)) aa_nil)))))
    (ass_cons (as_expr (ae_append (ae_var 9) (aa_cons (ae_call c C__law_sums (by decide) (by decide) (aa_cons (ae_lc false (own := [("_law_spot", 11), ("_law_amount_here", 12)]) c (ai_list (ae_var 3)) (show BlkOk N_law (defScope s_law) _ [("_law_spot", 11), ("_law_amount_here", 12)] from ⟨rfl, by decide +kernel, by decide +kernel, by decide +kernel, by decide +kernel⟩) (gw_tup (is := [11, 12]) (by decide)) (fun s H C cl fp => pg_tup c.calm (pgs_cons (pg_name (i := 11) c.nd rfl (by first | exact Or.inl rfl | exact Or.inr rfl)) (pgs_cons (pg_name (i := 12) c.nd rfl (by first | exact Or.inl rfl | exact Or.inr rfl)) pgs_nil))) (fun s H C cl fp c => ats_nil) (fun s H C cl fp c => (ae_tup (aa_cons (ae_var 11) (aa_cons (ae_mul false (ae_var 12) (ae_var 7)) aa_nil))))) aa_nil)) aa_nil)))
    (ass_cons (as_set 10 c.nd (ae_lst false (aa_cons (ag_own2 c R_Ledger___add__ (by decide) (ae_var 5) (ae_var 6)) (aa_cons (ag_own2 c R_Ledger___sub__ (by decide) (ae_var 5) (ae_var 6)) (aa_cons (ag_negO c R_Ledger___neg__ (by decide) (ae_var 6)) (aa_cons (ag_ownI c R_Ledger___mul__ (by decide) (ae_var 5) (ae_var 7)) aa_nil))))))
    (ass_cons (as_if (at_ne c (ae_b (dRepr_ok (c.gd rfl) c.room.units) T.z_repr bb_repr (aa_cons (ae_lc false (own := [("_law_one_told", 13)]) c (ai_list (ae_var 10)) (show BlkOk N_law (defScope s_law) _ [("_law_one_told", 13)] from ⟨rfl, by decide +kernel, by decide +kernel, by decide +kernel, by decide +kernel⟩) (gw_name (i := 13) (by decide)) (fun s H C cl fp => pg_name (i := 13) c.nd rfl (by first | exact Or.inl rfl | exact Or.inr rfl)) (fun s H C cl fp c => ats_nil) (fun s H C cl fp c => (ag_prop c R_Ledger_rows (by decide) (ae_var 13)))) aa_nil)) (ae_b (dRepr_ok (c.gd rfl) c.room.units) T.z_repr bb_repr (aa_cons (ae_var 9) aa_nil))) (ass_one (as_ret ae_bl)) ass_nil)
    (ass_cons (as_if (AW.at (aw_or (at_ne c (ag_prop c R_Ledger_rows (by decide) (ag_own2 c R_Ledger___add__ (by decide) (ae_var 6) (ae_var 5))) (ae_ix (ae_var 9) ae_int)) (aw_or (at_ne c (ag_prop c R_Ledger_rows (by decide) (ag_own2 c R_Ledger___sub__ (by decide) (ae_var 5) (ae_var 5))) (ae_tup aa_nil)) (aw_or1 (at_not (ag_ownEqT c EQ_Ledger (by decide) (ag_own2 c R_Ledger___add__ (by decide) (ae_var 5) (ag_make0 c M_Ledger (by decide))) (ae_var 5))))))) (ass_one (as_ret ae_bl)) ass_nil)
    (ass_cons (as_if (AW.at (aw_or (at_not (at_val (ae_call c C__law_moved_right (by decide) (by decide) (aa_cons (ae_var 1) (aa_cons (ae_var 5) (aa_cons (ae_call c C__law_sums (by decide) (by decide) (aa_cons (ae_var 3) aa_nil)) aa_nil)))))) (aw_or1 (at_not (at_val (ae_call c C__law_from_right (by decide) (by decide) (aa_cons (ae_var 1) (aa_cons (ae_var 5) (aa_cons (ae_call c C__law_sums (by decide) (by decide) (aa_cons (ae_var 3) aa_nil)) aa_nil))))))))) (ass_one (as_ret ae_bl)) ass_nil)
    (ass_cons (as_if (at_not (at_val (ae_call c C__law_called_right (by decide) (by decide) (aa_cons (ae_var 1) (aa_cons (ae_var 3) (aa_cons (ae_var 4) aa_nil)))))) (ass_one (as_ret ae_bl)) ass_nil)
    (ass_one (as_if (at_ne c (ae_b (dRepr_ok (c.gd rfl) c.room.units) T.z_repr bb_repr (aa_cons (ae_lst false (aa_cons (ag_prop c R_Ledger_rows (by decide) (ae_var 5)) (aa_cons (ag_prop c R_Ledger_rows (by decide) (ae_var 6)) aa_nil))) aa_nil)) (ae_b (dRepr_ok (c.gd rfl) c.room.units) T.z_repr bb_repr (aa_cons (ae_lst false (aa_cons (ae_call c C__law_sums (by decide) (by decide) (aa_cons (ae_var 3) aa_nil)) (aa_cons (ae_call c C__law_sums (by decide) (by decide) (aa_cons (ae_var 4) aa_nil)) aa_nil))) aa_nil))) (ass_one (as_ret ae_bl)) ass_nil)))))))))))))))
    (ass_one (as_ret ae_bl))))
end
end K26
namespace K26
open PySem PySem.Spec L2 C8 DL PK PL PQ PN PB F4 PR PyProof.Rows
/-! ### what the top has written, and the law's head (printed by gen4.py) -/
theorem all_mk {l : PySem.W.OpenLaw} {w : World} {K : PySem.W.Frag} {h : Heap} {mg : Str → Option Value} {fa : Addr} (X : K.In h) (G : h.Ns mainGlobals mg) (hfa : mg "law" = some (.ref fa))
    {f0 : Addr} {od0 an0 : Option Addr} {sl0 : Array (Option Value)} {oc0 kV0 dc0 pm0 cd0 ct0 : Value}
    {f1 : Addr} {od1 an1 : Option Addr} {sl1 : Array (Option Value)} {oc1 kV1 dc1 pm1 cd1 ct1 : Value}
    {f2 : Addr} {od2 an2 : Option Addr} {sl2 : Array (Option Value)} {oc2 kV2 dc2 pm2 cd2 ct2 : Value}
    {f3 : Addr} {od3 an3 : Option Addr} {sl3 : Array (Option Value)} {oc3 kV3 dc3 pm3 cd3 ct3 : Value}
    {f4 : Addr} {od4 an4 : Option Addr} {sl4 : Array (Option Value)} {oc4 kV4 dc4 pm4 cd4 ct4 : Value}
    {f5 : Addr} {od5 an5 : Option Addr} {sl5 : Array (Option Value)} {oc5 kV5 dc5 pm5 cd5 ct5 : Value}
    {f6 : Addr} {od6 an6 : Option Addr} {sl6 : Array (Option Value)} {oc6 kV6 dc6 pm6 cd6 ct6 : Value}
    {f7 : Addr} {od7 an7 : Option Addr} {sl7 : Array (Option Value)} {oc7 kV7 dc7 pm7 cd7 ct7 : Value}
    {f8 : Addr} {od8 an8 : Option Addr} {sl8 : Array (Option Value)} {oc8 kV8 dc8 pm8 cd8 ct8 : Value}
    {f9 : Addr} {od9 an9 : Option Addr} {sl9 : Array (Option Value)} {oc9 kV9 dc9 pm9 cd9 ct9 : Value}
    {f10 : Addr} {od10 an10 : Option Addr} {sl10 : Array (Option Value)} {oc10 kV10 dc10 pm10 cd10 ct10 : Value}
    {f11 : Addr} {od11 an11 : Option Addr} {sl11 : Array (Option Value)} {oc11 kV11 dc11 pm11 cd11 ct11 : Value}
    {f12 : Addr} {od12 an12 : Option Addr} {sl12 : Array (Option Value)} {oc12 kV12 dc12 pm12 cd12 ct12 : Value}
    {f13 : Addr} {od13 an13 : Option Addr} {sl13 : Array (Option Value)} {oc13 kV13 dc13 pm13 cd13 ct13 : Value}
    {f14 : Addr} {od14 an14 : Option Addr} {sl14 : Array (Option Value)} {oc14 kV14 dc14 pm14 cd14 ct14 : Value}
    {f15 : Addr} {od15 an15 : Option Addr} {sl15 : Array (Option Value)} {oc15 kV15 dc15 pm15 cd15 ct15 : Value}
    {f16 : Addr} {od16 an16 : Option Addr} {sl16 : Array (Option Value)} {oc16 kV16 dc16 pm16 cd16 ct16 : Value}
    {f17 : Addr} {od17 an17 : Option Addr} {sl17 : Array (Option Value)} {oc17 kV17 dc17 pm17 cd17 ct17 : Value}
    {f18 : Addr} {od18 an18 : Option Addr} {sl18 : Array (Option Value)} {oc18 kV18 dc18 pm18 cd18 ct18 : Value}
    {f19 : Addr} {od19 an19 : Option Addr} {sl19 : Array (Option Value)} {oc19 kV19 dc19 pm19 cd19 ct19 : Value}
    {f20 : Addr} {od20 an20 : Option Addr} {sl20 : Array (Option Value)} {oc20 kV20 dc20 pm20 cd20 ct20 : Value}
    {f21 : Addr} {od21 an21 : Option Addr} {sl21 : Array (Option Value)} {oc21 kV21 dc21 pm21 cd21 ct21 : Value}
    {f22 : Addr} {od22 an22 : Option Addr} {sl22 : Array (Option Value)} {oc22 kV22 dc22 pm22 cd22 ct22 : Value}
    {f23 : Addr} {od23 an23 : Option Addr} {sl23 : Array (Option Value)} {oc23 kV23 dc23 pm23 cd23 ct23 : Value}
    {f24 : Addr} {od24 an24 : Option Addr} {sl24 : Array (Option Value)} {oc24 kV24 dc24 pm24 cd24 ct24 : Value}
    {f25 : Addr} {od25 an25 : Option Addr} {sl25 : Array (Option Value)} {oc25 kV25 dc25 pm25 cd25 ct25 : Value}
    {f26 : Addr} {od26 an26 : Option Addr} {sl26 : Array (Option Value)} {oc26 kV26 dc26 pm26 cd26 ct26 : Value}
    {f27 : Addr} {od27 an27 : Option Addr} {sl27 : Array (Option Value)} {oc27 kV27 dc27 pm27 cd27 ct27 : Value}
    {f28 : Addr} {od28 an28 : Option Addr} {sl28 : Array (Option Value)} {oc28 kV28 dc28 pm28 ct28 : Value}
    {f29 : Addr} {od29 an29 : Option Addr} {sl29 : Array (Option Value)} {oc29 kV29 dc29 pm29 cd29 ct29 : Value}
    {f30 : Addr} {od30 an30 : Option Addr} {sl30 : Array (Option Value)} {oc30 kV30 dc30 pm30 cd30 ct30 : Value}
    {f31 : Addr} {od31 an31 : Option Addr} {sl31 : Array (Option Value)} {oc31 kV31 dc31 pm31 cd31 ct31 : Value}
    {f32 : Addr} {od32 an32 : Option Addr} {sl32 : Array (Option Value)} {oc32 kV32 dc32 pm32 cd32 ct32 : Value}
    {f33 : Addr} {od33 an33 : Option Addr} {sl33 : Array (Option Value)} {oc33 kV33 dc33 pm33 ct33 : Value}
    {f34 : Addr} {od34 an34 : Option Addr} {sl34 : Array (Option Value)} {oc34 kV34 dc34 pm34 cd34 ct34 : Value}
    {f35 : Addr} {od35 an35 : Option Addr} {sl35 : Array (Option Value)} {oc35 kV35 dc35 pm35 cd35 ct35 : Value}
    {f36 : Addr} {od36 an36 : Option Addr} {sl36 : Array (Option Value)} {oc36 kV36 dc36 pm36 cd36 ct36 : Value}
    {A_Ledger : Addr}
    {p5 : Addr} {rs5 : List Value}
    {p6 : Addr} {rs6 : List Value}
    {fo11 ro11 : Option Value}
    {A_AbsentError A_Contradiction A_DifferentModes A_EchoError A_Finished A_Full A_InvalidAccount A_InvalidBound A_InvalidCapacity A_InvalidMode A_InvalidNumber A_InvalidProgram A_InvalidReading A_InvalidRow A_InvalidTable A_InvalidText A_Lossy A_NoName A_NoPlace A_NoPoint A_NoReading A_NothingToUndo A_SizeError A_TooLarge A_TooLong A_TooManyProcesses A_UnknownCommand : Addr}
    {xnm0 xq0 : Str} {xN0 : Addr} {xbs0 xbm0 xsb0 : List Value} {xsn0 : List Str} {xab0 : Bool} {xco0 : Option Bool} {xdd0 : Option Addr} {xk00 xk10 xk20 xk30 xk50 : Option Value}
    {xnm1 xq1 : Str} {xN1 : Addr} {xbs1 xbm1 xsb1 : List Value} {xsn1 : List Str} {xab1 : Bool} {xco1 : Option Bool} {xdd1 : Option Addr} {xk01 xk11 xk21 xk31 xk51 : Option Value}
    {cc0 tp0 : Addr} {qc0 : Value} {qd0 : Option Addr} {qv0 : Array Value} {qs0 : Array (Option Value)}
    {cc1 tp1 : Addr} {qc1 : Value} {qd1 : Option Addr} {qv1 : Array Value} {qs1 : Array (Option Value)}
    (aC0 : PySem.W.nsIn K mainGlobals "Ledger" = some (some (.ref A_Ledger))) (pg0 : PySem.W.plainGet K A_Ledger Str.empty = true) (hd0 : PySem.W.hasDictIn K A_Ledger = true) (po0 : PySem.W.plainOver K A_Ledger = true) (sa0 : PySem.W.findIn K (.ref A_Ledger) "__setattr__" = some (some (.builtin "object.__setattr__"))) (mk0 : PySem.W.makesIn K A_Ledger = true) (kc0 : PySem.W.keepIn K (.ref A_Ledger) = true) (sf0 : PySem.W.selfFirst K A_Ledger = true)
    (nf0 : PySem.W.findIn K (.ref A_Ledger) "amounts" = some none)
    (eo_Ledger : PySem.W.mroIn K A_Ledger (.type "object") = some true) (en_Ledger : PySem.W.findIn K (.ref A_Ledger) "__ne__" = some (some (.builtin "object.__ne__")))
    (bo0 : PySem.W.findIn K (.ref A_Ledger) "__bool__" = some none)
    (xa0 : PySem.W.nsIn K mainGlobals "AbsentError" = some (some (.ref A_AbsentError)))
    (xa1 : PySem.W.nsIn K mainGlobals "Contradiction" = some (some (.ref A_Contradiction)))
    (xa2 : PySem.W.nsIn K mainGlobals "DifferentModes" = some (some (.ref A_DifferentModes)))
    (xa3 : PySem.W.nsIn K mainGlobals "EchoError" = some (some (.ref A_EchoError)))
    (xa4 : PySem.W.nsIn K mainGlobals "Finished" = some (some (.ref A_Finished)))
    (xa5 : PySem.W.nsIn K mainGlobals "Full" = some (some (.ref A_Full)))
    (xa6 : PySem.W.nsIn K mainGlobals "InvalidAccount" = some (some (.ref A_InvalidAccount)))
    (xa7 : PySem.W.nsIn K mainGlobals "InvalidBound" = some (some (.ref A_InvalidBound)))
    (xa8 : PySem.W.nsIn K mainGlobals "InvalidCapacity" = some (some (.ref A_InvalidCapacity)))
    (xa9 : PySem.W.nsIn K mainGlobals "InvalidMode" = some (some (.ref A_InvalidMode)))
    (xa10 : PySem.W.nsIn K mainGlobals "InvalidNumber" = some (some (.ref A_InvalidNumber)))
    (xa11 : PySem.W.nsIn K mainGlobals "InvalidProgram" = some (some (.ref A_InvalidProgram)))
    (xa12 : PySem.W.nsIn K mainGlobals "InvalidReading" = some (some (.ref A_InvalidReading)))
    (xa13 : PySem.W.nsIn K mainGlobals "InvalidRow" = some (some (.ref A_InvalidRow)))
    (xa14 : PySem.W.nsIn K mainGlobals "InvalidTable" = some (some (.ref A_InvalidTable)))
    (xa15 : PySem.W.nsIn K mainGlobals "InvalidText" = some (some (.ref A_InvalidText)))
    (xa16 : PySem.W.nsIn K mainGlobals "Lossy" = some (some (.ref A_Lossy)))
    (xa17 : PySem.W.nsIn K mainGlobals "NoName" = some (some (.ref A_NoName)))
    (xa18 : PySem.W.nsIn K mainGlobals "NoPlace" = some (some (.ref A_NoPlace)))
    (xa19 : PySem.W.nsIn K mainGlobals "NoPoint" = some (some (.ref A_NoPoint)))
    (xa20 : PySem.W.nsIn K mainGlobals "NoReading" = some (some (.ref A_NoReading)))
    (xa21 : PySem.W.nsIn K mainGlobals "NothingToUndo" = some (some (.ref A_NothingToUndo)))
    (xa22 : PySem.W.nsIn K mainGlobals "SizeError" = some (some (.ref A_SizeError)))
    (xa23 : PySem.W.nsIn K mainGlobals "TooLarge" = some (some (.ref A_TooLarge)))
    (xa24 : PySem.W.nsIn K mainGlobals "TooLong" = some (some (.ref A_TooLong)))
    (xa25 : PySem.W.nsIn K mainGlobals "TooManyProcesses" = some (some (.ref A_TooManyProcesses)))
    (xa26 : PySem.W.nsIn K mainGlobals "UnknownCommand" = some (some (.ref A_UnknownCommand)))
    (xl0 : K.lookup A_InvalidCapacity = some (excClassObj xnm0 xq0 A_InvalidCapacity xN0 xbs0 xbm0 true xsn0 xsb0 xab0 xco0 xdd0 xk00 xk10 xk20 xk30 xk50 "ValueError.__new__")) (rx0 : PySem.W.excTail [.type "ValueError", .type "Exception", .type "BaseException", .type "object"] xbm0 = true) (xs0 : PySem.W.findIn K (.ref A_InvalidCapacity) "__setattr__" = some (some (.builtin "object.__setattr__"))) (xi0 : PySem.W.findIn K (.ref A_InvalidCapacity) "__init__" = some (some (.ref f35))) (xj0 : PySem.W.typeIn K (.ref f35) = some (.type "function"))
    (xn0_0 : PySem.W.findIn K (.ref A_InvalidCapacity) "value" = some none)
    (xl1 : K.lookup A_TooLong = some (excClassObj xnm1 xq1 A_TooLong xN1 xbs1 xbm1 true xsn1 xsb1 xab1 xco1 xdd1 xk01 xk11 xk21 xk31 xk51 "OverflowError.__new__")) (rx1 : PySem.W.excTail [.type "OverflowError", .type "ArithmeticError", .type "Exception", .type "BaseException", .type "object"] xbm1 = true) (xs1 : PySem.W.findIn K (.ref A_TooLong) "__setattr__" = some (some (.builtin "object.__setattr__"))) (xi1 : PySem.W.findIn K (.ref A_TooLong) "__init__" = some (some (.ref f36))) (xj1 : PySem.W.typeIn K (.ref f36) = some (.type "function"))
    (xn1_0 : PySem.W.findIn K (.ref A_TooLong) "length" = some none)
    (xb0 : PySem.W.subIn K (.ref A_InvalidCapacity) (.type "BaseException") = some true)
    (xb1 : PySem.W.subIn K (.ref A_TooLong) (.type "BaseException") = some true)
    (xy0 : PySem.W.typeIn K (.ref A_InvalidCapacity) = some (.type "type")) (xk0 : PySem.W.keepIn K (.ref A_InvalidCapacity) = true)
    (xy1 : PySem.W.typeIn K (.ref A_TooLong) = some (.type "type")) (xk1 : PySem.W.keepIn K (.ref A_TooLong) = true)
    (vn : PySem.W.specialIn K (.builtin "object.__class__") "__get__" = some (some (.builtin "getset_descriptor.__get__"))) (vt : PySem.W.takesIn K (.builtin "object.__class__") = some true)
    (wb0 : PySem.W.subIn K (.ref A_EchoError) (.type "BaseException") = some true) (wd0 : PySem.W.hasDictIn K A_EchoError = true) (wy0 : PySem.W.typeIn K (.ref A_EchoError) = some (.type "type"))
    (wb1 : PySem.W.subIn K (.ref A_SizeError) (.type "BaseException") = some true) (wd1 : PySem.W.hasDictIn K A_SizeError = true) (wy1 : PySem.W.typeIn K (.ref A_SizeError) = some (.type "type"))
    (wb2 : PySem.W.subIn K (.ref A_AbsentError) (.type "BaseException") = some true) (wd2 : PySem.W.hasDictIn K A_AbsentError = true) (wy2 : PySem.W.typeIn K (.ref A_AbsentError) = some (.type "type"))
    (va0 : PySem.W.findIn K (.ref A_InvalidCapacity) "__getattribute__" = some (some (.builtin "BaseException.__getattribute__"))) (vg0 : PySem.W.findIn K (.ref A_InvalidCapacity) "__getattr__" = some none) (vd0 : PySem.W.hasDictIn K A_InvalidCapacity = true) (vc0 : PySem.W.findIn K (.ref A_InvalidCapacity) "__class__" = some (some (.builtin "object.__class__"))) (vm0 : PySem.W.mroIn K A_InvalidCapacity (.type "object") = some true)
    (ve0_0 : PySem.W.subIn K (.ref A_InvalidCapacity) (.ref A_EchoError) = some true) (ve0_1 : PySem.W.subIn K (.ref A_InvalidCapacity) (.ref A_SizeError) = some false) (ve0_2 : PySem.W.subIn K (.ref A_InvalidCapacity) (.ref A_AbsentError) = some false)
    (vk0_0 : PySem.W.kitOne K (.ref A_InvalidCapacity) (.ref A_AbsentError) = some false) (vk0_1 : PySem.W.kitOne K (.ref A_InvalidCapacity) (.ref A_Contradiction) = some false) (vk0_2 : PySem.W.kitOne K (.ref A_InvalidCapacity) (.ref A_DifferentModes) = some false) (vk0_3 : PySem.W.kitOne K (.ref A_InvalidCapacity) (.ref A_EchoError) = some true) (vk0_4 : PySem.W.kitOne K (.ref A_InvalidCapacity) (.ref A_Finished) = some false) (vk0_5 : PySem.W.kitOne K (.ref A_InvalidCapacity) (.ref A_Full) = some false) (vk0_6 : PySem.W.kitOne K (.ref A_InvalidCapacity) (.ref A_InvalidAccount) = some false) (vk0_7 : PySem.W.kitOne K (.ref A_InvalidCapacity) (.ref A_InvalidBound) = some false) (vk0_8 : PySem.W.kitOne K (.ref A_InvalidCapacity) (.ref A_InvalidCapacity) = some true) (vk0_9 : PySem.W.kitOne K (.ref A_InvalidCapacity) (.ref A_InvalidMode) = some false) (vk0_10 : PySem.W.kitOne K (.ref A_InvalidCapacity) (.ref A_InvalidNumber) = some false) (vk0_11 : PySem.W.kitOne K (.ref A_InvalidCapacity) (.ref A_InvalidProgram) = some false) (vk0_12 : PySem.W.kitOne K (.ref A_InvalidCapacity) (.ref A_InvalidReading) = some false) (vk0_13 : PySem.W.kitOne K (.ref A_InvalidCapacity) (.ref A_InvalidRow) = some false) (vk0_14 : PySem.W.kitOne K (.ref A_InvalidCapacity) (.ref A_InvalidTable) = some false) (vk0_15 : PySem.W.kitOne K (.ref A_InvalidCapacity) (.ref A_InvalidText) = some false) (vk0_16 : PySem.W.kitOne K (.ref A_InvalidCapacity) (.type "LookupError") = some false) (vk0_17 : PySem.W.kitOne K (.ref A_InvalidCapacity) (.ref A_Lossy) = some false) (vk0_18 : PySem.W.kitOne K (.ref A_InvalidCapacity) (.ref A_NoName) = some false) (vk0_19 : PySem.W.kitOne K (.ref A_InvalidCapacity) (.ref A_NoPlace) = some false) (vk0_20 : PySem.W.kitOne K (.ref A_InvalidCapacity) (.ref A_NoPoint) = some false) (vk0_21 : PySem.W.kitOne K (.ref A_InvalidCapacity) (.ref A_NoReading) = some false) (vk0_22 : PySem.W.kitOne K (.ref A_InvalidCapacity) (.ref A_NothingToUndo) = some false) (vk0_23 : PySem.W.kitOne K (.ref A_InvalidCapacity) (.type "OverflowError") = some false) (vk0_24 : PySem.W.kitOne K (.ref A_InvalidCapacity) (.ref A_SizeError) = some false) (vk0_25 : PySem.W.kitOne K (.ref A_InvalidCapacity) (.ref A_TooLarge) = some false) (vk0_26 : PySem.W.kitOne K (.ref A_InvalidCapacity) (.ref A_TooLong) = some false) (vk0_27 : PySem.W.kitOne K (.ref A_InvalidCapacity) (.ref A_TooManyProcesses) = some false) (vk0_28 : PySem.W.kitOne K (.ref A_InvalidCapacity) (.ref A_UnknownCommand) = some false) (vk0_29 : PySem.W.kitOne K (.ref A_InvalidCapacity) (.type "ValueError") = some true)
    (vf0_0 : PySem.W.findIn K (.ref A_InvalidCapacity) "value" = some none)
    (va1 : PySem.W.findIn K (.ref A_TooLong) "__getattribute__" = some (some (.builtin "BaseException.__getattribute__"))) (vg1 : PySem.W.findIn K (.ref A_TooLong) "__getattr__" = some none) (vd1 : PySem.W.hasDictIn K A_TooLong = true) (vc1 : PySem.W.findIn K (.ref A_TooLong) "__class__" = some (some (.builtin "object.__class__"))) (vm1 : PySem.W.mroIn K A_TooLong (.type "object") = some true)
    (ve1_0 : PySem.W.subIn K (.ref A_TooLong) (.ref A_EchoError) = some false) (ve1_1 : PySem.W.subIn K (.ref A_TooLong) (.ref A_SizeError) = some true) (ve1_2 : PySem.W.subIn K (.ref A_TooLong) (.ref A_AbsentError) = some false)
    (vk1_0 : PySem.W.kitOne K (.ref A_TooLong) (.ref A_AbsentError) = some false) (vk1_1 : PySem.W.kitOne K (.ref A_TooLong) (.ref A_Contradiction) = some false) (vk1_2 : PySem.W.kitOne K (.ref A_TooLong) (.ref A_DifferentModes) = some false) (vk1_3 : PySem.W.kitOne K (.ref A_TooLong) (.ref A_EchoError) = some false) (vk1_4 : PySem.W.kitOne K (.ref A_TooLong) (.ref A_Finished) = some false) (vk1_5 : PySem.W.kitOne K (.ref A_TooLong) (.ref A_Full) = some false) (vk1_6 : PySem.W.kitOne K (.ref A_TooLong) (.ref A_InvalidAccount) = some false) (vk1_7 : PySem.W.kitOne K (.ref A_TooLong) (.ref A_InvalidBound) = some false) (vk1_8 : PySem.W.kitOne K (.ref A_TooLong) (.ref A_InvalidCapacity) = some false) (vk1_9 : PySem.W.kitOne K (.ref A_TooLong) (.ref A_InvalidMode) = some false) (vk1_10 : PySem.W.kitOne K (.ref A_TooLong) (.ref A_InvalidNumber) = some false) (vk1_11 : PySem.W.kitOne K (.ref A_TooLong) (.ref A_InvalidProgram) = some false) (vk1_12 : PySem.W.kitOne K (.ref A_TooLong) (.ref A_InvalidReading) = some false) (vk1_13 : PySem.W.kitOne K (.ref A_TooLong) (.ref A_InvalidRow) = some false) (vk1_14 : PySem.W.kitOne K (.ref A_TooLong) (.ref A_InvalidTable) = some false) (vk1_15 : PySem.W.kitOne K (.ref A_TooLong) (.ref A_InvalidText) = some false) (vk1_16 : PySem.W.kitOne K (.ref A_TooLong) (.type "LookupError") = some false) (vk1_17 : PySem.W.kitOne K (.ref A_TooLong) (.ref A_Lossy) = some false) (vk1_18 : PySem.W.kitOne K (.ref A_TooLong) (.ref A_NoName) = some false) (vk1_19 : PySem.W.kitOne K (.ref A_TooLong) (.ref A_NoPlace) = some false) (vk1_20 : PySem.W.kitOne K (.ref A_TooLong) (.ref A_NoPoint) = some false) (vk1_21 : PySem.W.kitOne K (.ref A_TooLong) (.ref A_NoReading) = some false) (vk1_22 : PySem.W.kitOne K (.ref A_TooLong) (.ref A_NothingToUndo) = some false) (vk1_23 : PySem.W.kitOne K (.ref A_TooLong) (.type "OverflowError") = some true) (vk1_24 : PySem.W.kitOne K (.ref A_TooLong) (.ref A_SizeError) = some true) (vk1_25 : PySem.W.kitOne K (.ref A_TooLong) (.ref A_TooLarge) = some false) (vk1_26 : PySem.W.kitOne K (.ref A_TooLong) (.ref A_TooLong) = some true) (vk1_27 : PySem.W.kitOne K (.ref A_TooLong) (.ref A_TooManyProcesses) = some false) (vk1_28 : PySem.W.kitOne K (.ref A_TooLong) (.ref A_UnknownCommand) = some false) (vk1_29 : PySem.W.kitOne K (.ref A_TooLong) (.type "ValueError") = some false)
    (vf1_0 : PySem.W.findIn K (.ref A_TooLong) "length" = some none)
    (io_n : PySem.W.specialIn K (.builtin "object.__class__") "__get__" = some (some (.builtin "getset_descriptor.__get__"))) (io_t : PySem.W.takesIn K (.builtin "object.__class__") = some true)
    (io_a0 : PySem.W.findIn K (.ref A_Ledger) "__class__" = some (some (.builtin "object.__class__"))) (io_m0 : PySem.W.mroIn K A_Ledger (.type "object") = some true)
    (a0 : PySem.W.nsIn K mainGlobals "is_integer" = some (some (.ref f0))) (l0 : K.lookup f0 = some ⟨oc0, od0, .func (PySem.W.fnOf "is_integer" "is_integer" (defArgs s_is_integer) (defBody s_is_integer) (defScope s_is_integer) .none kV0 dc0 pm0 an0 cd0 ct0), sl0⟩) (c0 : PySem.W.codeIn K cd0 "is_integer" = true) (k0 : PySem.W.keepIn K (.ref f0) = true)
    (a1 : PySem.W.nsIn K mainGlobals "is_between" = some (some (.ref f1))) (l1 : K.lookup f1 = some ⟨oc1, od1, .func (PySem.W.fnOf "is_between" "is_between" (defArgs s_is_between) (defBody s_is_between) (defScope s_is_between) .none kV1 dc1 pm1 an1 cd1 ct1), sl1⟩) (c1 : PySem.W.codeIn K cd1 "is_between" = true) (k1 : PySem.W.keepIn K (.ref f1) = true)
    (a2 : PySem.W.nsIn K mainGlobals "need_capacity" = some (some (.ref f2))) (l2 : K.lookup f2 = some ⟨oc2, od2, .func (PySem.W.fnOf "need_capacity" "need_capacity" (defArgs s_need_capacity) (defBody s_need_capacity) (defScope s_need_capacity) .none kV2 dc2 pm2 an2 cd2 ct2), sl2⟩) (c2 : PySem.W.codeIn K cd2 "need_capacity" = true) (k2 : PySem.W.keepIn K (.ref f2) = true)
    (a3 : PySem.W.nsIn K mainGlobals "is_row" = some (some (.ref f3))) (l3 : K.lookup f3 = some ⟨oc3, od3, .func (PySem.W.fnOf "is_row" "is_row" (defArgs s_is_row) (defBody s_is_row) (defScope s_is_row) .none kV3 dc3 pm3 an3 cd3 ct3), sl3⟩) (c3 : PySem.W.codeIn K cd3 "is_row" = true) (k3 : PySem.W.keepIn K (.ref f3) = true)
    (a4_Ledger : PySem.W.findIn K (.ref A_Ledger) "__init__" = some (some (.ref f4))) (i4 : PySem.W.isFn K (.ref f4) = true) (j4 : PySem.W.fnIn K f4 = true) (l4 : K.lookup f4 = some ⟨oc4, od4, .func (PySem.W.fnOf "__init__" "Ledger.__init__" (defArgs s_Ledger___init__) (defBody s_Ledger___init__) (defScope s_Ledger___init__) .none kV4 dc4 pm4 an4 cd4 ct4), sl4⟩) (c4 : PySem.W.codeIn K cd4 "Ledger.__init__" = true) (k4 : PySem.W.keepIn K (.ref f4) = true)
    (a5_Ledger : PySem.W.findIn K (.ref A_Ledger) "rows" = some (some (.ref p5))) (pa5 : PySem.W.specialIn K (.ref p5) "__get__" = some (some (.builtin "property.__get__"))) (pb5 : PySem.W.takesIn K (.ref p5) = some true) (pc5 : PySem.W.recIn K p5 "property" = some (.ref f5 :: rs5)) (l5 : K.lookup f5 = some ⟨oc5, od5, .func (PySem.W.fnOf "rows" "Ledger.rows" (defArgs s_Ledger_rows) (defBody s_Ledger_rows) (defScope s_Ledger_rows) .none kV5 dc5 pm5 an5 cd5 ct5), sl5⟩) (c5 : PySem.W.codeIn K cd5 "Ledger.rows" = true) (k5 : PySem.W.keepIn K (.ref f5) = true)
    (a6_Ledger : PySem.W.findIn K (.ref A_Ledger) "greatest" = some (some (.ref p6))) (pa6 : PySem.W.specialIn K (.ref p6) "__get__" = some (some (.builtin "property.__get__"))) (pb6 : PySem.W.takesIn K (.ref p6) = some true) (pc6 : PySem.W.recIn K p6 "property" = some (.ref f6 :: rs6)) (l6 : K.lookup f6 = some ⟨oc6, od6, .func (PySem.W.fnOf "greatest" "Ledger.greatest" (defArgs s_Ledger_greatest) (defBody s_Ledger_greatest) (defScope s_Ledger_greatest) .none kV6 dc6 pm6 an6 cd6 ct6), sl6⟩) (c6 : PySem.W.codeIn K cd6 "Ledger.greatest" = true) (k6 : PySem.W.keepIn K (.ref f6) = true)
    (a7_Ledger : PySem.W.findIn K (.ref A_Ledger) "__len__" = some (some (.ref f7))) (i7 : PySem.W.isFn K (.ref f7) = true) (j7 : PySem.W.fnIn K f7 = true) (l7 : K.lookup f7 = some ⟨oc7, od7, .func (PySem.W.fnOf "__len__" "Ledger.__len__" (defArgs s_Ledger___len__) (defBody s_Ledger___len__) (defScope s_Ledger___len__) .none kV7 dc7 pm7 an7 cd7 ct7), sl7⟩) (c7 : PySem.W.codeIn K cd7 "Ledger.__len__" = true) (k7 : PySem.W.keepIn K (.ref f7) = true)
    (a8_Ledger : PySem.W.findIn K (.ref A_Ledger) "__add__" = some (some (.ref f8))) (i8 : PySem.W.isFn K (.ref f8) = true) (j8 : PySem.W.fnIn K f8 = true) (l8 : K.lookup f8 = some ⟨oc8, od8, .func (PySem.W.fnOf "__add__" "Ledger.__add__" (defArgs s_Ledger___add__) (defBody s_Ledger___add__) (defScope s_Ledger___add__) .none kV8 dc8 pm8 an8 cd8 ct8), sl8⟩) (c8 : PySem.W.codeIn K cd8 "Ledger.__add__" = true) (k8 : PySem.W.keepIn K (.ref f8) = true)
    (a9_Ledger : PySem.W.findIn K (.ref A_Ledger) "__neg__" = some (some (.ref f9))) (i9 : PySem.W.isFn K (.ref f9) = true) (j9 : PySem.W.fnIn K f9 = true) (l9 : K.lookup f9 = some ⟨oc9, od9, .func (PySem.W.fnOf "__neg__" "Ledger.__neg__" (defArgs s_Ledger___neg__) (defBody s_Ledger___neg__) (defScope s_Ledger___neg__) .none kV9 dc9 pm9 an9 cd9 ct9), sl9⟩) (c9 : PySem.W.codeIn K cd9 "Ledger.__neg__" = true) (k9 : PySem.W.keepIn K (.ref f9) = true)
    (a10_Ledger : PySem.W.findIn K (.ref A_Ledger) "__sub__" = some (some (.ref f10))) (i10 : PySem.W.isFn K (.ref f10) = true) (j10 : PySem.W.fnIn K f10 = true) (l10 : K.lookup f10 = some ⟨oc10, od10, .func (PySem.W.fnOf "__sub__" "Ledger.__sub__" (defArgs s_Ledger___sub__) (defBody s_Ledger___sub__) (defScope s_Ledger___sub__) .none kV10 dc10 pm10 an10 cd10 ct10), sl10⟩) (c10 : PySem.W.codeIn K cd10 "Ledger.__sub__" = true) (k10 : PySem.W.keepIn K (.ref f10) = true)
    (a11_Ledger : PySem.W.findIn K (.ref A_Ledger) "__mul__" = some (some (.ref f11))) (i11 : PySem.W.isFn K (.ref f11) = true) (j11 : PySem.W.fnIn K f11 = true) (of11 : PySem.W.findIn K (.type "int") "__mul__" = some fo11) (og11 : PySem.W.findIn K (.type "int") "__rmul__" = some ro11) (rr11_Ledger : PySem.W.findIn K (.ref A_Ledger) "__rmul__" = some none) (os11_Ledger : PySem.W.subIn K (.type "int") (.ref A_Ledger) = some false) (l11 : K.lookup f11 = some ⟨oc11, od11, .func (PySem.W.fnOf "__mul__" "Ledger.__mul__" (defArgs s_Ledger___mul__) (defBody s_Ledger___mul__) (defScope s_Ledger___mul__) .none kV11 dc11 pm11 an11 cd11 ct11), sl11⟩) (c11 : PySem.W.codeIn K cd11 "Ledger.__mul__" = true) (k11 : PySem.W.keepIn K (.ref f11) = true)
    (a12_Ledger : PySem.W.findIn K (.ref A_Ledger) "moved" = some (some (.ref f12))) (i12 : PySem.W.isFn K (.ref f12) = true) (j12 : PySem.W.fnIn K f12 = true) (l12 : K.lookup f12 = some ⟨oc12, od12, .func (PySem.W.fnOf "moved" "Ledger.moved" (defArgs s_Ledger_moved) (defBody s_Ledger_moved) (defScope s_Ledger_moved) .none kV12 dc12 pm12 an12 cd12 ct12), sl12⟩) (c12 : PySem.W.codeIn K cd12 "Ledger.moved" = true) (k12 : PySem.W.keepIn K (.ref f12) = true)
    (a13_Ledger : PySem.W.findIn K (.ref A_Ledger) "from_offset" = some (some (.ref f13))) (i13 : PySem.W.isFn K (.ref f13) = true) (j13 : PySem.W.fnIn K f13 = true) (l13 : K.lookup f13 = some ⟨oc13, od13, .func (PySem.W.fnOf "from_offset" "Ledger.from_offset" (defArgs s_Ledger_from_offset) (defBody s_Ledger_from_offset) (defScope s_Ledger_from_offset) .none kV13 dc13 pm13 an13 cd13 ct13), sl13⟩) (c13 : PySem.W.codeIn K cd13 "Ledger.from_offset" = true) (k13 : PySem.W.keepIn K (.ref f13) = true)
    (a14_Ledger : PySem.W.findIn K (.ref A_Ledger) "sum_at" = some (some (.ref f14))) (i14 : PySem.W.isFn K (.ref f14) = true) (j14 : PySem.W.fnIn K f14 = true) (l14 : K.lookup f14 = some ⟨oc14, od14, .func (PySem.W.fnOf "sum_at" "Ledger.sum_at" (defArgs s_Ledger_sum_at) (defBody s_Ledger_sum_at) (defScope s_Ledger_sum_at) .none kV14 dc14 pm14 an14 cd14 ct14), sl14⟩) (c14 : PySem.W.codeIn K cd14 "Ledger.sum_at" = true) (k14 : PySem.W.keepIn K (.ref f14) = true)
    (a15_Ledger : PySem.W.findIn K (.ref A_Ledger) "__call__" = some (some (.ref f15))) (i15 : PySem.W.isFn K (.ref f15) = true) (j15 : PySem.W.fnIn K f15 = true) (l15 : K.lookup f15 = some ⟨oc15, od15, .func (PySem.W.fnOf "__call__" "Ledger.__call__" (defArgs s_Ledger___call__) (defBody s_Ledger___call__) (defScope s_Ledger___call__) .none kV15 dc15 pm15 an15 cd15 ct15), sl15⟩) (c15 : PySem.W.codeIn K cd15 "Ledger.__call__" = true) (k15 : PySem.W.keepIn K (.ref f15) = true)
    (a16_Ledger : PySem.W.findIn K (.ref A_Ledger) "__eq__" = some (some (.ref f16))) (i16 : PySem.W.isFn K (.ref f16) = true) (j16 : PySem.W.fnIn K f16 = true) (l16 : K.lookup f16 = some ⟨oc16, od16, .func (PySem.W.fnOf "__eq__" "Ledger.__eq__" (defArgs s_Ledger___eq__) (defBody s_Ledger___eq__) (defScope s_Ledger___eq__) .none kV16 dc16 pm16 an16 cd16 ct16), sl16⟩) (c16 : PySem.W.codeIn K cd16 "Ledger.__eq__" = true) (k16 : PySem.W.keepIn K (.ref f16) = true)
    (a17 : PySem.W.nsIn K mainGlobals "_law_pen" = some (some (.ref f17))) (l17 : K.lookup f17 = some ⟨oc17, od17, .func (PySem.W.fnOf "_law_pen" "_law_pen" (defArgs s__law_pen) (defBody s__law_pen) (defScope s__law_pen) .none kV17 dc17 pm17 an17 cd17 ct17), sl17⟩) (c17 : PySem.W.codeIn K cd17 "_law_pen" = true) (k17 : PySem.W.keepIn K (.ref f17) = true)
    (a18 : PySem.W.nsIn K mainGlobals "_law_draw" = some (some (.ref f18))) (l18 : K.lookup f18 = some ⟨oc18, od18, .func (PySem.W.fnOf "_law_draw" "_law_draw" (defArgs s__law_draw) (defBody s__law_draw) (defScope s__law_draw) .none kV18 dc18 pm18 an18 cd18 ct18), sl18⟩) (c18 : PySem.W.codeIn K cd18 "_law_draw" = true) (k18 : PySem.W.keepIn K (.ref f18) = true)
    (a19 : PySem.W.nsIn K mainGlobals "_law_word" = some (some (.ref f19))) (l19 : K.lookup f19 = some ⟨oc19, od19, .func (PySem.W.fnOf "_law_word" "_law_word" (defArgs s__law_word) (defBody s__law_word) (defScope s__law_word) .none kV19 dc19 pm19 an19 cd19 ct19), sl19⟩) (c19 : PySem.W.codeIn K cd19 "_law_word" = true) (k19 : PySem.W.keepIn K (.ref f19) = true)
    (a20 : PySem.W.nsIn K mainGlobals "_law_field" = some (some (.ref f20))) (l20 : K.lookup f20 = some ⟨oc20, od20, .func (PySem.W.fnOf "_law_field" "_law_field" (defArgs s__law_field) (defBody s__law_field) (defScope s__law_field) .none kV20 dc20 pm20 an20 cd20 ct20), sl20⟩) (c20 : PySem.W.codeIn K cd20 "_law_field" = true) (k20 : PySem.W.keepIn K (.ref f20) = true)
    (a21 : PySem.W.nsIn K mainGlobals "_law_more_field" = some (some (.ref f21))) (l21 : K.lookup f21 = some ⟨oc21, od21, .func (PySem.W.fnOf "_law_more_field" "_law_more_field" (defArgs s__law_more_field) (defBody s__law_more_field) (defScope s__law_more_field) .none kV21 dc21 pm21 an21 cd21 ct21), sl21⟩) (c21 : PySem.W.codeIn K cd21 "_law_more_field" = true) (k21 : PySem.W.keepIn K (.ref f21) = true)
    (a22 : PySem.W.nsIn K mainGlobals "_law_heard" = some (some (.ref f22))) (l22 : K.lookup f22 = some ⟨oc22, od22, .func (PySem.W.fnOf "_law_heard" "_law_heard" (defArgs s__law_heard) (defBody s__law_heard) (defScope s__law_heard) .none kV22 dc22 pm22 an22 cd22 ct22), sl22⟩) (c22 : PySem.W.codeIn K cd22 "_law_heard" = true) (k22 : PySem.W.keepIn K (.ref f22) = true)
    (a23 : PySem.W.nsIn K mainGlobals "_law_offset" = some (some (.ref f23))) (l23 : K.lookup f23 = some ⟨oc23, od23, .func (PySem.W.fnOf "_law_offset" "_law_offset" (defArgs s__law_offset) (defBody s__law_offset) (defScope s__law_offset) .none kV23 dc23 pm23 an23 cd23 ct23), sl23⟩) (c23 : PySem.W.codeIn K cd23 "_law_offset" = true) (k23 : PySem.W.keepIn K (.ref f23) = true)
    (a24 : PySem.W.nsIn K mainGlobals "_law_amount" = some (some (.ref f24))) (l24 : K.lookup f24 = some ⟨oc24, od24, .func (PySem.W.fnOf "_law_amount" "_law_amount" (defArgs s__law_amount) (defBody s__law_amount) (defScope s__law_amount) .none kV24 dc24 pm24 an24 cd24 ct24), sl24⟩) (c24 : PySem.W.codeIn K cd24 "_law_amount" = true) (k24 : PySem.W.keepIn K (.ref f24) = true)
    (a25 : PySem.W.nsIn K mainGlobals "_law_rows" = some (some (.ref f25))) (l25 : K.lookup f25 = some ⟨oc25, od25, .func (PySem.W.fnOf "_law_rows" "_law_rows" (defArgs s__law_rows) (defBody s__law_rows) (defScope s__law_rows) .none kV25 dc25 pm25 an25 cd25 ct25), sl25⟩) (c25 : PySem.W.codeIn K cd25 "_law_rows" = true) (k25 : PySem.W.keepIn K (.ref f25) = true)
    (a26 : PySem.W.nsIn K mainGlobals "_law_sums" = some (some (.ref f26))) (l26 : K.lookup f26 = some ⟨oc26, od26, .func (PySem.W.fnOf "_law_sums" "_law_sums" (defArgs s__law_sums) (defBody s__law_sums) (defScope s__law_sums) .none kV26 dc26 pm26 an26 cd26 ct26), sl26⟩) (c26 : PySem.W.codeIn K cd26 "_law_sums" = true) (k26 : PySem.W.keepIn K (.ref f26) = true)
    (a27 : PySem.W.nsIn K mainGlobals "_law_ledger" = some (some (.ref f27))) (l27 : K.lookup f27 = some ⟨oc27, od27, .func (PySem.W.fnOf "_law_ledger" "_law_ledger" (defArgs s__law_ledger) (defBody s__law_ledger) (defScope s__law_ledger) .none kV27 dc27 pm27 an27 cd27 ct27), sl27⟩) (c27 : PySem.W.codeIn K cd27 "_law_ledger" = true) (k27 : PySem.W.keepIn K (.ref f27) = true)
    (a28 : PySem.W.nsIn K mainGlobals "_law_moved_right" = some (some (.ref f28))) (l28 : K.lookup f28 = some ⟨oc28, od28, .func (PySem.W.fnOf "_law_moved_right" "_law_moved_right" (defArgs s__law_moved_right) (defBody s__law_moved_right) (defScope s__law_moved_right) .none kV28 dc28 pm28 an28 (.ref cc1) ct28), sl28⟩) (c28 : PySem.W.codeIn K (.ref cc1) "_law_moved_right" = true) (k28 : PySem.W.keepIn K (.ref f28) = true) (ty1 : K.lookup cc1 = some ⟨qc1, qd1, .fields qv1, qs1⟩) (rv1 : qv1[11]? = some (.ref tp1)) (tn1 : K.lookup tp1 = none)
    (a29 : PySem.W.nsIn K mainGlobals "_law_from_right" = some (some (.ref f29))) (l29 : K.lookup f29 = some ⟨oc29, od29, .func (PySem.W.fnOf "_law_from_right" "_law_from_right" (defArgs s__law_from_right) (defBody s__law_from_right) (defScope s__law_from_right) .none kV29 dc29 pm29 an29 cd29 ct29), sl29⟩) (c29 : PySem.W.codeIn K cd29 "_law_from_right" = true) (k29 : PySem.W.keepIn K (.ref f29) = true)
    (a30 : PySem.W.nsIn K mainGlobals "_law_capacity" = some (some (.ref f30))) (l30 : K.lookup f30 = some ⟨oc30, od30, .func (PySem.W.fnOf "_law_capacity" "_law_capacity" (defArgs s__law_capacity) (defBody s__law_capacity) (defScope s__law_capacity) .none kV30 dc30 pm30 an30 cd30 ct30), sl30⟩) (c30 : PySem.W.codeIn K cd30 "_law_capacity" = true) (k30 : PySem.W.keepIn K (.ref f30) = true)
    (a31 : PySem.W.nsIn K mainGlobals "_law_no_capacity" = some (some (.ref f31))) (l31 : K.lookup f31 = some ⟨oc31, od31, .func (PySem.W.fnOf "_law_no_capacity" "_law_no_capacity" (defArgs s__law_no_capacity) (defBody s__law_no_capacity) (defScope s__law_no_capacity) .none kV31 dc31 pm31 an31 cd31 ct31), sl31⟩) (c31 : PySem.W.codeIn K cd31 "_law_no_capacity" = true) (k31 : PySem.W.keepIn K (.ref f31) = true)
    (a32 : PySem.W.nsIn K mainGlobals "_law_due" = some (some (.ref f32))) (l32 : K.lookup f32 = some ⟨oc32, od32, .func (PySem.W.fnOf "_law_due" "_law_due" (defArgs s__law_due) (defBody s__law_due) (defScope s__law_due) .none kV32 dc32 pm32 an32 cd32 ct32), sl32⟩) (c32 : PySem.W.codeIn K cd32 "_law_due" = true) (k32 : PySem.W.keepIn K (.ref f32) = true)
    (a33 : PySem.W.nsIn K mainGlobals "_law_called_right" = some (some (.ref f33))) (l33 : K.lookup f33 = some ⟨oc33, od33, .func (PySem.W.fnOf "_law_called_right" "_law_called_right" (defArgs s__law_called_right) (defBody s__law_called_right) (defScope s__law_called_right) .none kV33 dc33 pm33 an33 (.ref cc0) ct33), sl33⟩) (c33 : PySem.W.codeIn K (.ref cc0) "_law_called_right" = true) (k33 : PySem.W.keepIn K (.ref f33) = true) (ty0 : K.lookup cc0 = some ⟨qc0, qd0, .fields qv0, qs0⟩) (rv0 : qv0[11]? = some (.ref tp0)) (tn0 : K.lookup tp0 = none)
    (a34 : PySem.W.nsIn K mainGlobals "law" = some (some (.ref f34))) (l34 : K.lookup f34 = some ⟨oc34, od34, .func (PySem.W.fnOf "law" "law" (defArgs s_law) (defBody s_law) (defScope s_law) .none kV34 dc34 pm34 an34 cd34 ct34), sl34⟩) (c34 : PySem.W.codeIn K cd34 "law" = true) (k34 : PySem.W.keepIn K (.ref f34) = true)
    (l35 : K.lookup f35 = some ⟨oc35, od35, .func (PySem.W.fnOf "__init__" "InvalidCapacity.__init__" (defArgs s_InvalidCapacity___init__) (defBody s_InvalidCapacity___init__) (defScope s_InvalidCapacity___init__) .none kV35 dc35 pm35 an35 cd35 ct35), sl35⟩) (c35 : PySem.W.codeIn K cd35 "InvalidCapacity.__init__" = true) (k35 : PySem.W.keepIn K (.ref f35) = true)
    (l36 : K.lookup f36 = some ⟨oc36, od36, .func (PySem.W.fnOf "__init__" "TooLong.__init__" (defArgs s_TooLong___init__) (defBody s_TooLong___init__) (defScope s_TooLong___init__) .none kV36 dc36 pm36 an36 cd36 ct36), sl36⟩) (c36 : PySem.W.codeIn K cd36 "TooLong.__init__" = true) (k36 : PySem.W.keepIn K (.ref f36) = true)
    (rd : [tp0, tp1].Nodup)
    (z0 : PySem.W.nsIn K mainGlobals "LookupError" = some none)
    (z1 : PySem.W.nsIn K mainGlobals "OverflowError" = some none)
    (z2 : PySem.W.nsIn K mainGlobals "ValueError" = some none)
    (z3 : PySem.W.nsIn K mainGlobals "abs" = some none)
    (z4 : PySem.W.nsIn K mainGlobals "bool" = some none)
    (z5 : PySem.W.nsIn K mainGlobals "enumerate" = some none)
    (z6 : PySem.W.nsIn K mainGlobals "int" = some none)
    (z7 : PySem.W.nsIn K mainGlobals "isinstance" = some none)
    (z8 : PySem.W.nsIn K mainGlobals "len" = some none)
    (z9 : PySem.W.nsIn K mainGlobals "list" = some none)
    (z10 : PySem.W.nsIn K mainGlobals "max" = some none)
    (z11 : PySem.W.nsIn K mainGlobals "min" = some none)
    (z12 : PySem.W.nsIn K mainGlobals "range" = some none)
    (z13 : PySem.W.nsIn K mainGlobals "repr" = some none)
    (z14 : PySem.W.nsIn K mainGlobals "sorted" = some none)
    (z15 : PySem.W.nsIn K mainGlobals "sum" = some none)
    (z16 : PySem.W.nsIn K mainGlobals "tuple" = some none)
    {t0 : Tok} (g0 : PySem.W.nsIn K mainGlobals "MOST_CAPACITY" = some (some (Value.int 1000000000000000000000000000000 t0)))
    {t1 : Tok} (g1 : PySem.W.nsIn K mainGlobals "MOST_OFFSET" = some (some (Value.int 1000000 t1)))
    : LawT true l w K 10 63 "_law_script" mg fa ["_law_called_right", "_law_moved_right"] := by
  have e := hfa.symm.trans (PySem.W.mg_of X G a34)
  cases e
  let z : Ad := { Ledger := A_Ledger, AbsentError := A_AbsentError, Contradiction := A_Contradiction, DifferentModes := A_DifferentModes, EchoError := A_EchoError, Finished := A_Finished, Full := A_Full, InvalidAccount := A_InvalidAccount, InvalidBound := A_InvalidBound, InvalidCapacity := A_InvalidCapacity, InvalidMode := A_InvalidMode, InvalidNumber := A_InvalidNumber, InvalidProgram := A_InvalidProgram, InvalidReading := A_InvalidReading, InvalidRow := A_InvalidRow, InvalidTable := A_InvalidTable, InvalidText := A_InvalidText, Lossy := A_Lossy, NoName := A_NoName, NoPlace := A_NoPlace, NoPoint := A_NoPoint, NoReading := A_NoReading, NothingToUndo := A_NothingToUndo, SizeError := A_SizeError, TooLarge := A_TooLarge, TooLong := A_TooLong, TooManyProcesses := A_TooManyProcesses, UnknownCommand := A_UnknownCommand, t0 := tp0, t1 := tp1 }
  have xva_InvalidCapacity : XVal K A_InvalidCapacity := ⟨va0, vg0, xb0, vd0, vc0, vn, vt, vm0⟩
  have xva_TooLong : XVal K A_TooLong := ⟨va1, vg1, xb1, vd1, vc1, vn, vt, vm1⟩
  have xq_0_0 : XVal K A_InvalidCapacity ∧ ∃ v u, ClsD (.ref A_AbsentError) v u ∧ PySem.W.kitOne K (.ref A_InvalidCapacity) u = some false := ⟨xva_InvalidCapacity, _, _, .own _, vk0_0⟩
  have xq_0_1 : XVal K A_InvalidCapacity ∧ ∃ v u, ClsD (.ref A_Contradiction) v u ∧ PySem.W.kitOne K (.ref A_InvalidCapacity) u = some false := ⟨xva_InvalidCapacity, _, _, .own _, vk0_1⟩
  have xq_0_2 : XVal K A_InvalidCapacity ∧ ∃ v u, ClsD (.ref A_DifferentModes) v u ∧ PySem.W.kitOne K (.ref A_InvalidCapacity) u = some false := ⟨xva_InvalidCapacity, _, _, .own _, vk0_2⟩
  have xq_0_3 : XVal K A_InvalidCapacity ∧ ∃ v u, ClsD (.ref A_EchoError) v u ∧ PySem.W.kitOne K (.ref A_InvalidCapacity) u = some true := ⟨xva_InvalidCapacity, _, _, .own _, vk0_3⟩
  have xq_0_4 : XVal K A_InvalidCapacity ∧ ∃ v u, ClsD (.ref A_Finished) v u ∧ PySem.W.kitOne K (.ref A_InvalidCapacity) u = some false := ⟨xva_InvalidCapacity, _, _, .own _, vk0_4⟩
  have xq_0_5 : XVal K A_InvalidCapacity ∧ ∃ v u, ClsD (.ref A_Full) v u ∧ PySem.W.kitOne K (.ref A_InvalidCapacity) u = some false := ⟨xva_InvalidCapacity, _, _, .own _, vk0_5⟩
  have xq_0_6 : XVal K A_InvalidCapacity ∧ ∃ v u, ClsD (.ref A_InvalidAccount) v u ∧ PySem.W.kitOne K (.ref A_InvalidCapacity) u = some false := ⟨xva_InvalidCapacity, _, _, .own _, vk0_6⟩
  have xq_0_7 : XVal K A_InvalidCapacity ∧ ∃ v u, ClsD (.ref A_InvalidBound) v u ∧ PySem.W.kitOne K (.ref A_InvalidCapacity) u = some false := ⟨xva_InvalidCapacity, _, _, .own _, vk0_7⟩
  have xq_0_8 : XVal K A_InvalidCapacity ∧ ∃ v u, ClsD (.ref A_InvalidCapacity) v u ∧ PySem.W.kitOne K (.ref A_InvalidCapacity) u = some true := ⟨xva_InvalidCapacity, _, _, .own _, vk0_8⟩
  have xq_0_9 : XVal K A_InvalidCapacity ∧ ∃ v u, ClsD (.ref A_InvalidMode) v u ∧ PySem.W.kitOne K (.ref A_InvalidCapacity) u = some false := ⟨xva_InvalidCapacity, _, _, .own _, vk0_9⟩
  have xq_0_10 : XVal K A_InvalidCapacity ∧ ∃ v u, ClsD (.ref A_InvalidNumber) v u ∧ PySem.W.kitOne K (.ref A_InvalidCapacity) u = some false := ⟨xva_InvalidCapacity, _, _, .own _, vk0_10⟩
  have xq_0_11 : XVal K A_InvalidCapacity ∧ ∃ v u, ClsD (.ref A_InvalidProgram) v u ∧ PySem.W.kitOne K (.ref A_InvalidCapacity) u = some false := ⟨xva_InvalidCapacity, _, _, .own _, vk0_11⟩
  have xq_0_12 : XVal K A_InvalidCapacity ∧ ∃ v u, ClsD (.ref A_InvalidReading) v u ∧ PySem.W.kitOne K (.ref A_InvalidCapacity) u = some false := ⟨xva_InvalidCapacity, _, _, .own _, vk0_12⟩
  have xq_0_13 : XVal K A_InvalidCapacity ∧ ∃ v u, ClsD (.ref A_InvalidRow) v u ∧ PySem.W.kitOne K (.ref A_InvalidCapacity) u = some false := ⟨xva_InvalidCapacity, _, _, .own _, vk0_13⟩
  have xq_0_14 : XVal K A_InvalidCapacity ∧ ∃ v u, ClsD (.ref A_InvalidTable) v u ∧ PySem.W.kitOne K (.ref A_InvalidCapacity) u = some false := ⟨xva_InvalidCapacity, _, _, .own _, vk0_14⟩
  have xq_0_15 : XVal K A_InvalidCapacity ∧ ∃ v u, ClsD (.ref A_InvalidText) v u ∧ PySem.W.kitOne K (.ref A_InvalidCapacity) u = some false := ⟨xva_InvalidCapacity, _, _, .own _, vk0_15⟩
  have xq_0_16 : XVal K A_InvalidCapacity ∧ ∃ v u, ClsD (.ty "LookupError") v u ∧ PySem.W.kitOne K (.ref A_InvalidCapacity) u = some false := ⟨xva_InvalidCapacity, _, _, .ty _, vk0_16⟩
  have xq_0_17 : XVal K A_InvalidCapacity ∧ ∃ v u, ClsD (.ref A_Lossy) v u ∧ PySem.W.kitOne K (.ref A_InvalidCapacity) u = some false := ⟨xva_InvalidCapacity, _, _, .own _, vk0_17⟩
  have xq_0_18 : XVal K A_InvalidCapacity ∧ ∃ v u, ClsD (.ref A_NoName) v u ∧ PySem.W.kitOne K (.ref A_InvalidCapacity) u = some false := ⟨xva_InvalidCapacity, _, _, .own _, vk0_18⟩
  have xq_0_19 : XVal K A_InvalidCapacity ∧ ∃ v u, ClsD (.ref A_NoPlace) v u ∧ PySem.W.kitOne K (.ref A_InvalidCapacity) u = some false := ⟨xva_InvalidCapacity, _, _, .own _, vk0_19⟩
  have xq_0_20 : XVal K A_InvalidCapacity ∧ ∃ v u, ClsD (.ref A_NoPoint) v u ∧ PySem.W.kitOne K (.ref A_InvalidCapacity) u = some false := ⟨xva_InvalidCapacity, _, _, .own _, vk0_20⟩
  have xq_0_21 : XVal K A_InvalidCapacity ∧ ∃ v u, ClsD (.ref A_NoReading) v u ∧ PySem.W.kitOne K (.ref A_InvalidCapacity) u = some false := ⟨xva_InvalidCapacity, _, _, .own _, vk0_21⟩
  have xq_0_22 : XVal K A_InvalidCapacity ∧ ∃ v u, ClsD (.ref A_NothingToUndo) v u ∧ PySem.W.kitOne K (.ref A_InvalidCapacity) u = some false := ⟨xva_InvalidCapacity, _, _, .own _, vk0_22⟩
  have xq_0_23 : XVal K A_InvalidCapacity ∧ ∃ v u, ClsD (.ty "OverflowError") v u ∧ PySem.W.kitOne K (.ref A_InvalidCapacity) u = some false := ⟨xva_InvalidCapacity, _, _, .ty _, vk0_23⟩
  have xq_0_24 : XVal K A_InvalidCapacity ∧ ∃ v u, ClsD (.ref A_SizeError) v u ∧ PySem.W.kitOne K (.ref A_InvalidCapacity) u = some false := ⟨xva_InvalidCapacity, _, _, .own _, vk0_24⟩
  have xq_0_25 : XVal K A_InvalidCapacity ∧ ∃ v u, ClsD (.ref A_TooLarge) v u ∧ PySem.W.kitOne K (.ref A_InvalidCapacity) u = some false := ⟨xva_InvalidCapacity, _, _, .own _, vk0_25⟩
  have xq_0_26 : XVal K A_InvalidCapacity ∧ ∃ v u, ClsD (.ref A_TooLong) v u ∧ PySem.W.kitOne K (.ref A_InvalidCapacity) u = some false := ⟨xva_InvalidCapacity, _, _, .own _, vk0_26⟩
  have xq_0_27 : XVal K A_InvalidCapacity ∧ ∃ v u, ClsD (.ref A_TooManyProcesses) v u ∧ PySem.W.kitOne K (.ref A_InvalidCapacity) u = some false := ⟨xva_InvalidCapacity, _, _, .own _, vk0_27⟩
  have xq_0_28 : XVal K A_InvalidCapacity ∧ ∃ v u, ClsD (.ref A_UnknownCommand) v u ∧ PySem.W.kitOne K (.ref A_InvalidCapacity) u = some false := ⟨xva_InvalidCapacity, _, _, .own _, vk0_28⟩
  have xq_0_29 : XVal K A_InvalidCapacity ∧ ∃ v u, ClsD (.ty "ValueError") v u ∧ PySem.W.kitOne K (.ref A_InvalidCapacity) u = some true := ⟨xva_InvalidCapacity, _, _, .ty _, vk0_29⟩
  have xq_1_0 : XVal K A_TooLong ∧ ∃ v u, ClsD (.ref A_AbsentError) v u ∧ PySem.W.kitOne K (.ref A_TooLong) u = some false := ⟨xva_TooLong, _, _, .own _, vk1_0⟩
  have xq_1_1 : XVal K A_TooLong ∧ ∃ v u, ClsD (.ref A_Contradiction) v u ∧ PySem.W.kitOne K (.ref A_TooLong) u = some false := ⟨xva_TooLong, _, _, .own _, vk1_1⟩
  have xq_1_2 : XVal K A_TooLong ∧ ∃ v u, ClsD (.ref A_DifferentModes) v u ∧ PySem.W.kitOne K (.ref A_TooLong) u = some false := ⟨xva_TooLong, _, _, .own _, vk1_2⟩
  have xq_1_3 : XVal K A_TooLong ∧ ∃ v u, ClsD (.ref A_EchoError) v u ∧ PySem.W.kitOne K (.ref A_TooLong) u = some false := ⟨xva_TooLong, _, _, .own _, vk1_3⟩
  have xq_1_4 : XVal K A_TooLong ∧ ∃ v u, ClsD (.ref A_Finished) v u ∧ PySem.W.kitOne K (.ref A_TooLong) u = some false := ⟨xva_TooLong, _, _, .own _, vk1_4⟩
  have xq_1_5 : XVal K A_TooLong ∧ ∃ v u, ClsD (.ref A_Full) v u ∧ PySem.W.kitOne K (.ref A_TooLong) u = some false := ⟨xva_TooLong, _, _, .own _, vk1_5⟩
  have xq_1_6 : XVal K A_TooLong ∧ ∃ v u, ClsD (.ref A_InvalidAccount) v u ∧ PySem.W.kitOne K (.ref A_TooLong) u = some false := ⟨xva_TooLong, _, _, .own _, vk1_6⟩
  have xq_1_7 : XVal K A_TooLong ∧ ∃ v u, ClsD (.ref A_InvalidBound) v u ∧ PySem.W.kitOne K (.ref A_TooLong) u = some false := ⟨xva_TooLong, _, _, .own _, vk1_7⟩
  have xq_1_8 : XVal K A_TooLong ∧ ∃ v u, ClsD (.ref A_InvalidCapacity) v u ∧ PySem.W.kitOne K (.ref A_TooLong) u = some false := ⟨xva_TooLong, _, _, .own _, vk1_8⟩
  have xq_1_9 : XVal K A_TooLong ∧ ∃ v u, ClsD (.ref A_InvalidMode) v u ∧ PySem.W.kitOne K (.ref A_TooLong) u = some false := ⟨xva_TooLong, _, _, .own _, vk1_9⟩
  have xq_1_10 : XVal K A_TooLong ∧ ∃ v u, ClsD (.ref A_InvalidNumber) v u ∧ PySem.W.kitOne K (.ref A_TooLong) u = some false := ⟨xva_TooLong, _, _, .own _, vk1_10⟩
  have xq_1_11 : XVal K A_TooLong ∧ ∃ v u, ClsD (.ref A_InvalidProgram) v u ∧ PySem.W.kitOne K (.ref A_TooLong) u = some false := ⟨xva_TooLong, _, _, .own _, vk1_11⟩
  have xq_1_12 : XVal K A_TooLong ∧ ∃ v u, ClsD (.ref A_InvalidReading) v u ∧ PySem.W.kitOne K (.ref A_TooLong) u = some false := ⟨xva_TooLong, _, _, .own _, vk1_12⟩
  have xq_1_13 : XVal K A_TooLong ∧ ∃ v u, ClsD (.ref A_InvalidRow) v u ∧ PySem.W.kitOne K (.ref A_TooLong) u = some false := ⟨xva_TooLong, _, _, .own _, vk1_13⟩
  have xq_1_14 : XVal K A_TooLong ∧ ∃ v u, ClsD (.ref A_InvalidTable) v u ∧ PySem.W.kitOne K (.ref A_TooLong) u = some false := ⟨xva_TooLong, _, _, .own _, vk1_14⟩
  have xq_1_15 : XVal K A_TooLong ∧ ∃ v u, ClsD (.ref A_InvalidText) v u ∧ PySem.W.kitOne K (.ref A_TooLong) u = some false := ⟨xva_TooLong, _, _, .own _, vk1_15⟩
  have xq_1_16 : XVal K A_TooLong ∧ ∃ v u, ClsD (.ty "LookupError") v u ∧ PySem.W.kitOne K (.ref A_TooLong) u = some false := ⟨xva_TooLong, _, _, .ty _, vk1_16⟩
  have xq_1_17 : XVal K A_TooLong ∧ ∃ v u, ClsD (.ref A_Lossy) v u ∧ PySem.W.kitOne K (.ref A_TooLong) u = some false := ⟨xva_TooLong, _, _, .own _, vk1_17⟩
  have xq_1_18 : XVal K A_TooLong ∧ ∃ v u, ClsD (.ref A_NoName) v u ∧ PySem.W.kitOne K (.ref A_TooLong) u = some false := ⟨xva_TooLong, _, _, .own _, vk1_18⟩
  have xq_1_19 : XVal K A_TooLong ∧ ∃ v u, ClsD (.ref A_NoPlace) v u ∧ PySem.W.kitOne K (.ref A_TooLong) u = some false := ⟨xva_TooLong, _, _, .own _, vk1_19⟩
  have xq_1_20 : XVal K A_TooLong ∧ ∃ v u, ClsD (.ref A_NoPoint) v u ∧ PySem.W.kitOne K (.ref A_TooLong) u = some false := ⟨xva_TooLong, _, _, .own _, vk1_20⟩
  have xq_1_21 : XVal K A_TooLong ∧ ∃ v u, ClsD (.ref A_NoReading) v u ∧ PySem.W.kitOne K (.ref A_TooLong) u = some false := ⟨xva_TooLong, _, _, .own _, vk1_21⟩
  have xq_1_22 : XVal K A_TooLong ∧ ∃ v u, ClsD (.ref A_NothingToUndo) v u ∧ PySem.W.kitOne K (.ref A_TooLong) u = some false := ⟨xva_TooLong, _, _, .own _, vk1_22⟩
  have xq_1_23 : XVal K A_TooLong ∧ ∃ v u, ClsD (.ty "OverflowError") v u ∧ PySem.W.kitOne K (.ref A_TooLong) u = some true := ⟨xva_TooLong, _, _, .ty _, vk1_23⟩
  have xq_1_24 : XVal K A_TooLong ∧ ∃ v u, ClsD (.ref A_SizeError) v u ∧ PySem.W.kitOne K (.ref A_TooLong) u = some true := ⟨xva_TooLong, _, _, .own _, vk1_24⟩
  have xq_1_25 : XVal K A_TooLong ∧ ∃ v u, ClsD (.ref A_TooLarge) v u ∧ PySem.W.kitOne K (.ref A_TooLong) u = some false := ⟨xva_TooLong, _, _, .own _, vk1_25⟩
  have xq_1_26 : XVal K A_TooLong ∧ ∃ v u, ClsD (.ref A_TooLong) v u ∧ PySem.W.kitOne K (.ref A_TooLong) u = some true := ⟨xva_TooLong, _, _, .own _, vk1_26⟩
  have xq_1_27 : XVal K A_TooLong ∧ ∃ v u, ClsD (.ref A_TooManyProcesses) v u ∧ PySem.W.kitOne K (.ref A_TooLong) u = some false := ⟨xva_TooLong, _, _, .own _, vk1_27⟩
  have xq_1_28 : XVal K A_TooLong ∧ ∃ v u, ClsD (.ref A_UnknownCommand) v u ∧ PySem.W.kitOne K (.ref A_TooLong) u = some false := ⟨xva_TooLong, _, _, .own _, vk1_28⟩
  have xq_1_29 : XVal K A_TooLong ∧ ∃ v u, ClsD (.ty "ValueError") v u ∧ PySem.W.kitOne K (.ref A_TooLong) u = some false := ⟨xva_TooLong, _, _, .ty _, vk1_29⟩
  have T : Txt K mg z := ⟨⟨pg0, hd0, po0, sa0⟩, nf0, ⟨⟨pg0, hd0, po0, sa0⟩, io_a0, io_n, io_t, io_m0⟩, cst_ref (PySem.W.mg_of X G aC0), cst_ref (PySem.W.mg_of X G xa0), cst_ref (PySem.W.mg_of X G xa1), cst_ref (PySem.W.mg_of X G xa2), cst_ref (PySem.W.mg_of X G xa3), cst_ref (PySem.W.mg_of X G xa4), cst_ref (PySem.W.mg_of X G xa5), cst_ref (PySem.W.mg_of X G xa6), cst_ref (PySem.W.mg_of X G xa7), cst_ref (PySem.W.mg_of X G xa8), cst_ref (PySem.W.mg_of X G xa9), cst_ref (PySem.W.mg_of X G xa10), cst_ref (PySem.W.mg_of X G xa11), cst_ref (PySem.W.mg_of X G xa12), cst_ref (PySem.W.mg_of X G xa13), cst_ref (PySem.W.mg_of X G xa14), cst_ref (PySem.W.mg_of X G xa15), cst_ref (PySem.W.mg_of X G xa16), cst_ref (PySem.W.mg_of X G xa17), cst_ref (PySem.W.mg_of X G xa18), cst_ref (PySem.W.mg_of X G xa19), cst_ref (PySem.W.mg_of X G xa20), cst_ref (PySem.W.mg_of X G xa21), cst_ref (PySem.W.mg_of X G xa22), cst_ref (PySem.W.mg_of X G xa23), cst_ref (PySem.W.mg_of X G xa24), cst_ref (PySem.W.mg_of X G xa25), cst_ref (PySem.W.mg_of X G xa26), PySem.W.mg_of X G xa3, PySem.W.mg_of X G xa22, PySem.W.mg_of X G xa0, (fun C hC => by (try unfold errs at hC); (try unfold xtab at hC); simp only [List.mem_cons, List.not_mem_nil, or_false] at hC; rcases hC with rfl | rfl <;> first | exact exm3_of (PySem.W.exm_ref wb0 wd0 wy0 ve0_0) (PySem.W.exm_ref wb1 wd1 wy1 ve0_1) (PySem.W.exm_ref wb2 wd2 wy2 ve0_2) rfl | exact exm3_of (PySem.W.exm_ref wb0 wd0 wy0 ve1_0) (PySem.W.exm_ref wb1 wd1 wy1 ve1_1) (PySem.W.exm_ref wb2 wd2 wy2 ve1_2) rfl), (fun C hC => by (try unfold errs at hC); (try unfold xtab at hC); simp only [List.mem_cons, List.not_mem_nil, or_false] at hC; rcases hC with rfl | rfl | rfl | rfl | rfl | rfl | rfl | rfl | rfl | rfl | rfl | rfl | rfl | rfl | rfl | rfl | rfl | rfl | rfl | rfl | rfl | rfl | rfl | rfl | rfl | rfl | rfl | rfl | rfl | rfl | rfl | rfl | rfl | rfl | rfl | rfl | rfl | rfl | rfl | rfl | rfl | rfl | rfl | rfl | rfl | rfl | rfl | rfl | rfl | rfl | rfl | rfl | rfl | rfl | rfl | rfl | rfl | rfl | rfl | rfl <;> first | exact xq_0_0 | exact xq_0_1 | exact xq_0_2 | exact xq_0_3 | exact xq_0_4 | exact xq_0_5 | exact xq_0_6 | exact xq_0_7 | exact xq_0_8 | exact xq_0_9 | exact xq_0_10 | exact xq_0_11 | exact xq_0_12 | exact xq_0_13 | exact xq_0_14 | exact xq_0_15 | exact xq_0_16 | exact xq_0_17 | exact xq_0_18 | exact xq_0_19 | exact xq_0_20 | exact xq_0_21 | exact xq_0_22 | exact xq_0_23 | exact xq_0_24 | exact xq_0_25 | exact xq_0_26 | exact xq_0_27 | exact xq_0_28 | exact xq_0_29 | exact xq_1_0 | exact xq_1_1 | exact xq_1_2 | exact xq_1_3 | exact xq_1_4 | exact xq_1_5 | exact xq_1_6 | exact xq_1_7 | exact xq_1_8 | exact xq_1_9 | exact xq_1_10 | exact xq_1_11 | exact xq_1_12 | exact xq_1_13 | exact xq_1_14 | exact xq_1_15 | exact xq_1_16 | exact xq_1_17 | exact xq_1_18 | exact xq_1_19 | exact xq_1_20 | exact xq_1_21 | exact xq_1_22 | exact xq_1_23 | exact xq_1_24 | exact xq_1_25 | exact xq_1_26 | exact xq_1_27 | exact xq_1_28 | exact xq_1_29), (fun C hC => by cases hC), (fun C hC => by cases hC), (fun C hC => by cases hC), (fun C hC => by cases hC), (fun C hC => by cases hC), (fun C hC => by (try unfold errs at hC); (try unfold xtab at hC); simp only [List.mem_cons, List.not_mem_nil, or_false] at hC; rcases hC with rfl <;> first | exact ⟨xva_TooLong, vf1_0⟩), (fun C hC => by cases hC), (fun C hC => by cases hC), (fun C hC => by cases hC), (fun C hC => by cases hC), (fun C hC => by cases hC), (fun C hC => by cases hC), (fun C hC => by cases hC), (fun C hC => by cases hC), (fun C hC => by (try unfold errs at hC); (try unfold xtab at hC); simp only [List.mem_cons, List.not_mem_nil, or_false] at hC; rcases hC with rfl <;> first | exact ⟨xva_InvalidCapacity, vf0_0⟩), (fun C hC => by cases hC), PySem.W.mg_none_of X G z0, PySem.W.mg_none_of X G z1, PySem.W.mg_none_of X G z2, PySem.W.mg_none_of X G z3, PySem.W.mg_none_of X G z4, PySem.W.mg_none_of X G z5, PySem.W.mg_none_of X G z6, PySem.W.mg_none_of X G z7, PySem.W.mg_none_of X G z8, PySem.W.mg_none_of X G z9, PySem.W.mg_none_of X G z10, PySem.W.mg_none_of X G z11, PySem.W.mg_none_of X G z12, PySem.W.mg_none_of X G z13, PySem.W.mg_none_of X G z14, PySem.W.mg_none_of X G z15, PySem.W.mg_none_of X G z16, cst_int (PySem.W.mg_of X G g0), cst_int (PySem.W.mg_of X G g1)⟩
  have Fu0 := fun_mk (st := s_is_integer) l0 c0 k0
  have Fu1 := fun_mk (st := s_is_between) l1 c1 k1
  have Fu2 := fun_mk (st := s_need_capacity) l2 c2 k2
  have Fu3 := fun_mk (st := s_is_row) l3 c3 k3
  have Fu4 := fun_mk (st := s_Ledger___init__) l4 c4 k4
  have Fu5 := fun_mk (st := s_Ledger_rows) l5 c5 k5
  have Fu6 := fun_mk (st := s_Ledger_greatest) l6 c6 k6
  have Fu7 := fun_mk (st := s_Ledger___len__) l7 c7 k7
  have Fu8 := fun_mk (st := s_Ledger___add__) l8 c8 k8
  have Fu9 := fun_mk (st := s_Ledger___neg__) l9 c9 k9
  have Fu10 := fun_mk (st := s_Ledger___sub__) l10 c10 k10
  have Fu11 := fun_mk (st := s_Ledger___mul__) l11 c11 k11
  have Fu12 := fun_mk (st := s_Ledger_moved) l12 c12 k12
  have Fu13 := fun_mk (st := s_Ledger_from_offset) l13 c13 k13
  have Fu14 := fun_mk (st := s_Ledger_sum_at) l14 c14 k14
  have Fu15 := fun_mk (st := s_Ledger___call__) l15 c15 k15
  have Fu16 := fun_mk (st := s_Ledger___eq__) l16 c16 k16
  have Fu17 := fun_mk (st := s__law_pen) l17 c17 k17
  have Fu18 := fun_mk (st := s__law_draw) l18 c18 k18
  have Fu19 := fun_mk (st := s__law_word) l19 c19 k19
  have Fu20 := fun_mk (st := s__law_field) l20 c20 k20
  have Fu21 := fun_mk (st := s__law_more_field) l21 c21 k21
  have Fu22 := fun_mk (st := s__law_heard) l22 c22 k22
  have Fu23 := fun_mk (st := s__law_offset) l23 c23 k23
  have Fu24 := fun_mk (st := s__law_amount) l24 c24 k24
  have Fu25 := fun_mk (st := s__law_rows) l25 c25 k25
  have Fu26 := fun_mk (st := s__law_sums) l26 c26 k26
  have Fu27 := fun_mk (st := s__law_ledger) l27 c27 k27
  have Fu28 := fun_mk (st := s__law_moved_right) l28 c28 k28
  have Fu29 := fun_mk (st := s__law_from_right) l29 c29 k29
  have Fu30 := fun_mk (st := s__law_capacity) l30 c30 k30
  have Fu31 := fun_mk (st := s__law_no_capacity) l31 c31 k31
  have Fu32 := fun_mk (st := s__law_due) l32 c32 k32
  have Fu33 := fun_mk (st := s__law_called_right) l33 c33 k33
  have Fu34 := fun_mk (st := s_law) l34 c34 k34
  have Fu35 := fun_mk (st := s_InvalidCapacity___init__) l35 c35 k35
  have Fu36 := fun_mk (st := s_TooLong___init__) l36 c36 k36
  refine ⟨⟨PySem.W.fnOf "law" "law" (defArgs s_law) (defBody s_law) (defScope s_law) .none kV34 dc34 pm34 an34 cd34 ct34, S_law z, [("_law_called_right", cc0, tp0, (("_law_called_right" : Str) ++ ".<locals>." ++ "<lambda>")), ("_law_moved_right", cc1, tp1, (("_law_moved_right" : Str) ++ ".<locals>." ++ "<lambda>"))], fun s v => .of_eq rfl, ?_, fun js h hl ht => law_at z js h hl ⟨ht ("_law_called_right", cc0, tp0, (("_law_called_right" : Str) ++ ".<locals>." ++ "<lambda>")) (by simp), ht ("_law_moved_right", cc1, tp1, (("_law_moved_right" : Str) ++ ".<locals>." ++ "<lambda>")) (by simp)⟩, rd, fun base _ _ TBs => ?_⟩⟩
  · intro p hp
    simp only [List.mem_cons, List.not_mem_nil, or_false] at hp
    rcases hp with rfl | rfl
    · exact ⟨by simp, tabIn_of a33 l33 rfl ty0 rv0, tn0⟩
    · exact ⟨by simp, tabIn_of a28 l28 rfl ty1 rv1, tn1⟩
  have TB__law_called_right : LamX.TabB base mg cc0 z.t0 := TBs ("_law_called_right", cc0, tp0, (("_law_called_right" : Str) ++ ".<locals>." ++ "<lambda>")) (by simp)
  have TB__law_moved_right : LamX.TabB base mg cc1 z.t1 := TBs ("_law_moved_right", cc1, tp1, (("_law_moved_right" : Str) ++ ".<locals>." ++ "<lambda>")) (by simp)
  have FC__law_called_right := FunC.of Fu33 (cc := cc0) rfl
  have FC__law_moved_right := FunC.of Fu28 (cc := cc1) rfl
  have X_InvalidCapacity : XMk l.prog w K mg base "InvalidCapacity" z.InvalidCapacity 1 ["value"] := ⟨⟨f35, _, _, xi0, xj0, xinit1 (k := 0) Fu35 sc_InvalidCapacity___init__ (by first | exact Or.inl rfl | exact Or.inr (Or.inl rfl)) (by first | exact Or.inl rfl | exact Or.inr (Or.inl rfl)) rfl, Fu35.binds (ps := ["self", "value"]) fun _ _ _ _ _ _ us hl => match us, hl with | [_, _], _ => rfl⟩, ⟨⟨_, _, _, _, _, _, _, _, _, _, _, _, _, _, _, _, _, _, _, PySem.F.excBase_ValueError, xl0, rx0, PySem.F.store_ValueError.passes, by decide⟩, xs0, xb0, xy0, xk0⟩, PySem.W.mg_of X G xa8, by intro f hf; simp only [List.mem_cons, List.not_mem_nil, or_false] at hf; rcases hf with rfl <;> first | exact xn0_0, by decide⟩
  have X_TooLong : XMk l.prog w K mg base "TooLong" z.TooLong 1 ["length"] := ⟨⟨f36, _, _, xi1, xj1, xinit1 (k := 0) Fu36 sc_TooLong___init__ (by first | exact Or.inl rfl | exact Or.inr (Or.inl rfl)) (by first | exact Or.inl rfl | exact Or.inr (Or.inl rfl)) rfl, Fu36.binds (ps := ["self", "length"]) fun _ _ _ _ _ _ us hl => match us, hl with | [_, _], _ => rfl⟩, ⟨⟨_, _, _, _, _, _, _, _, _, _, _, _, _, _, _, _, _, _, _, PySem.F.excBase_OverflowError, xl1, rx1, PySem.F.store_OverflowError.passes, by decide⟩, xs1, xb1, xy1, xk1⟩, PySem.W.mg_of X G xa24, by intro f hf; simp only [List.mem_cons, List.not_mem_nil, or_false] at hf; rcases hf with rfl <;> first | exact xn1_0, by decide⟩
  have G0 : FnG false l.prog w K mg base 1 f0 _ ["value"] (PK.S_is_integer z) := fng_of Fu0 sc_is_integer (PK.len_is_integer z) (PK.mo_is_integer z) (fun cdv A outer s H E c => d_is_integer T  cdv A outer s H E c) (PK.p_is_integer z)
  have C_is_integer : Cal false l.prog w K mg base "is_integer" 1 1 [] (fun ds _ => ds) (PK.S_is_integer z) := ⟨⟨f0, _, _, PySem.W.mg_of X G a0, k0, G0, (Bnd.plain fun us hl => match us, hl with | [_], _ => rfl)⟩⟩
  have G5 : FnG false l.prog w K mg base 1 f5 _ ["self"] (PL.S_Ledger_rows z) := fng_of Fu5 sc_Ledger_rows (PL.len_Ledger_rows z) (PL.mo_Ledger_rows z) (fun cdv A outer s H E c => d_Ledger_rows T  cdv A outer s H E c) (PL.p_Ledger_rows z)
  have R_Ledger_rows : PrpC l.prog w K mg base z.Ledger "rows" 1 (PL.S_Ledger_rows z) := ⟨T.k_Ledger, p5, f5, _, _, ⟨a5_Ledger, pa5, pb5, ⟨_, pc5⟩⟩, G5, Fu5.binds (ps := ["self"]) fun _ _ _ _ _ _ us hl => match us, hl with | [_], _ => rfl⟩
  have G6 : FnG false l.prog w K mg base 1 f6 _ ["self"] (PL.S_Ledger_greatest z) := fng_of Fu6 sc_Ledger_greatest (PL.len_Ledger_greatest z) (PL.mo_Ledger_greatest z) (fun cdv A outer s H E c => d_Ledger_greatest T  cdv A outer s H E c) (PL.p_Ledger_greatest z)
  have R_Ledger_greatest : PrpC l.prog w K mg base z.Ledger "greatest" 1 (PL.S_Ledger_greatest z) := ⟨T.k_Ledger, p6, f6, _, _, ⟨a6_Ledger, pa6, pb6, ⟨_, pc6⟩⟩, G6, Fu6.binds (ps := ["self"]) fun _ _ _ _ _ _ us hl => match us, hl with | [_], _ => rfl⟩
  have G7 : FnG false l.prog w K mg base 1 f7 _ ["self"] (PL.S_Ledger___len__ z) := fng_of Fu7 sc_Ledger___len__ (PL.len_Ledger___len__ z) (PL.mo_Ledger___len__ z) (fun cdv A outer s H E c => d_Ledger___len__ T  cdv A outer s H E c) (PL.p_Ledger___len__ z)
  have LN_Ledger : LenC l.prog w K mg base z.Ledger 1 (PL.S_Ledger___len__ z) := ⟨⟨f7, bo0, a7_Ledger, i7, frd_plain G7 (Bnd.plain fun us hl => match us, hl with | [_], _ => rfl)⟩, (PL.mo_Ledger___len__ z)⟩
  have G16 : FnG false l.prog w K mg base 1 f16 _ ["self", "other"] (PN.S_Ledger___eq__ z) := fng_of Fu16 sc_Ledger___eq__ (PN.len_Ledger___eq__ z) (PN.mo_Ledger___eq__ z) (fun cdv A outer s H E c => d_Ledger___eq__ T  cdv A outer s H E c) (PN.p_Ledger___eq__ z)
  have EQ_Ledger : EqC l.prog w K mg base z.Ledger 1 (PN.S_Ledger___eq__ z) := ⟨⟨f16, a16_Ledger, i16, eo_Ledger, en_Ledger, frd_plain G16 (Bnd.plain fun us hl => match us, hl with | [_, _], _ => rfl)⟩, (PN.mo_Ledger___eq__ z)⟩
  have G17 : FnG false l.prog w K mg base 1 f17 _ ["_law_script"] (F4.S__law_pen z) := fng_of Fu17 sc__law_pen (F4.len__law_pen z) (F4.mo__law_pen z) (fun cdv A outer s H E c => d__law_pen T  cdv A outer s H E c) (F4.p__law_pen z)
  have C__law_pen : Cal false l.prog w K mg base "_law_pen" 1 1 [] (fun ds _ => ds) (F4.S__law_pen z) := ⟨⟨f17, _, _, PySem.W.mg_of X G a17, k17, G17, (Bnd.plain fun us hl => match us, hl with | [_], _ => rfl)⟩⟩
  have G18 : FnG false l.prog w K mg base 1 f18 _ ["_law_pen_here", "_law_many"] (F4.S__law_draw z) := fng_of Fu18 sc__law_draw (F4.len__law_draw z) (F4.mo__law_draw z) (fun cdv A outer s H E c => d__law_draw T  cdv A outer s H E c) (F4.p__law_draw z)
  have C__law_draw : Cal false l.prog w K mg base "_law_draw" 1 2 [] (fun ds _ => ds) (F4.S__law_draw z) := ⟨⟨f18, _, _, PySem.W.mg_of X G a18, k18, G18, (Bnd.plain fun us hl => match us, hl with | [_, _], _ => rfl)⟩⟩
  have G19 : FnG false l.prog w K mg base 1 f19 _ ["_law_it"] (S__law_word z) := fng_of Fu19 sc__law_word (len__law_word z) (mo__law_word z) (fun cdv A outer s H E c => d__law_word T  cdv A outer s H E c) (p__law_word z)
  have C__law_word : Cal false l.prog w K mg base "_law_word" 1 1 [] (fun ds _ => ds) (S__law_word z) := ⟨⟨f19, _, _, PySem.W.mg_of X G a19, k19, G19, (Bnd.plain fun us hl => match us, hl with | [_], _ => rfl)⟩⟩
  have G21 : FnG false l.prog w K mg base 1 f21 _ ["_law_word_here", "_law_it"] (S__law_more_field z) := fng_of Fu21 sc__law_more_field (len__law_more_field z) (mo__law_more_field z) (fun cdv A outer s H E c => d__law_more_field T  cdv A outer s H E c) (p__law_more_field z)
  have C__law_more_field : Cal false l.prog w K mg base "_law_more_field" 1 2 [] (fun ds _ => ds) (S__law_more_field z) := ⟨⟨f21, _, _, PySem.W.mg_of X G a21, k21, G21, (Bnd.plain fun us hl => match us, hl with | [_, _], _ => rfl)⟩⟩
  have G26 : FnG false l.prog w K mg base 1 f26 _ ["_law_rows_here"] (S__law_sums z) := fng_of Fu26 sc__law_sums (len__law_sums z) (mo__law_sums z) (fun cdv A outer s H E c => d__law_sums T  cdv A outer s H E c) (p__law_sums z)
  have C__law_sums : Cal false l.prog w K mg base "_law_sums" 1 1 [] (fun ds _ => ds) (S__law_sums z) := ⟨⟨f26, _, _, PySem.W.mg_of X G a26, k26, G26, (Bnd.plain fun us hl => match us, hl with | [_], _ => rfl)⟩⟩
  have G32 : FnG false l.prog w K mg base 1 f32 _ ["_law_rows_here", "_law_size"] (S__law_due z) := fng_of Fu32 sc__law_due (len__law_due z) (mo__law_due z) (fun cdv A outer s H E c => d__law_due T  cdv A outer s H E c) (p__law_due z)
  have C__law_due : Cal false l.prog w K mg base "_law_due" 1 2 [] (fun ds _ => ds) (S__law_due z) := ⟨⟨f32, _, _, PySem.W.mg_of X G a32, k32, G32, (Bnd.plain fun us hl => match us, hl with | [_, _], _ => rfl)⟩⟩
  have G1 : FnG false l.prog w K mg base 2 f1 _ ["value", "least", "most"] (PK.S_is_between z) := fng_of Fu1 sc_is_between (PK.len_is_between z) (PK.mo_is_between z) (fun cdv A outer s H E c => d_is_between T C_is_integer cdv A outer s H E c) (PK.p_is_between z)
  have C_is_between : Cal false l.prog w K mg base "is_between" 2 3 [] (fun ds _ => ds) (PK.S_is_between z) := ⟨⟨f1, _, _, PySem.W.mg_of X G a1, k1, G1, (Bnd.plain fun us hl => match us, hl with | [_, _, _], _ => rfl)⟩⟩
  have G20 : FnG false l.prog w K mg base 2 f20 _ ["_law_word_here", "_law_it"] (S__law_field z) := fng_of Fu20 sc__law_field (len__law_field z) (mo__law_field z) (fun cdv A outer s H E c => d__law_field T C__law_more_field cdv A outer s H E c) (p__law_field z)
  have C__law_field : Cal false l.prog w K mg base "_law_field" 2 2 [] (fun ds _ => ds) (S__law_field z) := ⟨⟨f20, _, _, PySem.W.mg_of X G a20, k20, G20, (Bnd.plain fun us hl => match us, hl with | [_, _], _ => rfl)⟩⟩
  have G23 : FnG false l.prog w K mg base 2 f23 _ ["_law_pen_here"] (S__law_offset z) := fng_of Fu23 sc__law_offset (len__law_offset z) (mo__law_offset z) (fun cdv A outer s H E c => d__law_offset T C__law_draw cdv A outer s H E c) (p__law_offset z)
  have C__law_offset : Cal false l.prog w K mg base "_law_offset" 2 1 [] (fun ds _ => ds) (S__law_offset z) := ⟨⟨f23, _, _, PySem.W.mg_of X G a23, k23, G23, (Bnd.plain fun us hl => match us, hl with | [_], _ => rfl)⟩⟩
  have G24 : FnG false l.prog w K mg base 2 f24 _ ["_law_pen_here"] (S__law_amount z) := fng_of Fu24 sc__law_amount (len__law_amount z) (mo__law_amount z) (fun cdv A outer s H E c => d__law_amount T C__law_draw cdv A outer s H E c) (p__law_amount z)
  have C__law_amount : Cal false l.prog w K mg base "_law_amount" 2 1 [] (fun ds _ => ds) (S__law_amount z) := ⟨⟨f24, _, _, PySem.W.mg_of X G a24, k24, G24, (Bnd.plain fun us hl => match us, hl with | [_], _ => rfl)⟩⟩
  have G30 : FnG false l.prog w K mg base 2 f30 _ ["_law_pen_here", "_law_near"] (S__law_capacity z) := fng_of Fu30 sc__law_capacity (len__law_capacity z) (mo__law_capacity z) (fun cdv A outer s H E c => d__law_capacity T C__law_draw cdv A outer s H E c) (p__law_capacity z)
  have C__law_capacity : Cal false l.prog w K mg base "_law_capacity" 2 2 [] (fun ds _ => ds) (S__law_capacity z) := ⟨⟨f30, _, _, PySem.W.mg_of X G a30, k30, G30, (Bnd.plain fun us hl => match us, hl with | [_, _], _ => rfl)⟩⟩
  have G31 : FnG false l.prog w K mg base 2 f31 _ ["_law_pen_here"] (S__law_no_capacity z) := fng_of Fu31 sc__law_no_capacity (len__law_no_capacity z) (mo__law_no_capacity z) (fun cdv A outer s H E c => d__law_no_capacity T C__law_draw cdv A outer s H E c) (p__law_no_capacity z)
  have C__law_no_capacity : Cal false l.prog w K mg base "_law_no_capacity" 2 1 [] (fun ds _ => ds) (S__law_no_capacity z) := ⟨⟨f31, _, _, PySem.W.mg_of X G a31, k31, G31, (Bnd.plain fun us hl => match us, hl with | [_], _ => rfl)⟩⟩
  have G2 : FnG false l.prog w K mg base 3 f2 _ ["value"] (PR.S_need_capacity z) := fng_of Fu2 sc_need_capacity (PR.len_need_capacity z) (PR.mo_need_capacity z) (fun cdv A outer s H E c => d_need_capacity T C_is_between X_InvalidCapacity cdv A outer s H E c) (PR.p_need_capacity z)
  have C_need_capacity : Cal false l.prog w K mg base "need_capacity" 3 1 [] (fun ds _ => ds) (PR.S_need_capacity z) := ⟨⟨f2, _, _, PySem.W.mg_of X G a2, k2, G2, (Bnd.plain fun us hl => match us, hl with | [_], _ => rfl)⟩⟩
  have G3 : FnG false l.prog w K mg base 3 f3 _ ["value"] (PL.S_is_row z) := fng_of Fu3 sc_is_row (PL.len_is_row z) (PL.mo_is_row z) (fun cdv A outer s H E c => d_is_row T C_is_between C_is_integer cdv A outer s H E c) (PL.p_is_row z)
  have C_is_row : Cal false l.prog w K mg base "is_row" 3 1 [] (fun ds _ => ds) (PL.S_is_row z) := ⟨⟨f3, _, _, PySem.W.mg_of X G a3, k3, G3, (Bnd.plain fun us hl => match us, hl with | [_], _ => rfl)⟩⟩
  have G13 : FnG false l.prog w K mg base 3 f13 _ ["self", "offset"] (PB.S_Ledger_from_offset z) := fng_of Fu13 sc_Ledger_from_offset (PB.len_Ledger_from_offset z) (PB.mo_Ledger_from_offset z) (fun cdv A outer s H E c => d_Ledger_from_offset T R_Ledger_rows cdv A outer s H E c) (PB.p_Ledger_from_offset z)
  have R_Ledger_from_offset : MetC l.prog w K mg base z.Ledger "from_offset" 3 (PB.S_Ledger_from_offset z) := ⟨T.k_Ledger, ⟨f13, ⟨a13_Ledger, i13, k13⟩, frd_plain G13 (Bnd.plain fun us hl => match us, hl with | [_, _], _ => rfl)⟩, (PB.mo_Ledger_from_offset z)⟩
  have RK_Ledger_from_offset_offset : MetKC l.prog w K mg base z.Ledger "from_offset" 3 ["offset"] (pickD [0, 1]) (PB.S_Ledger_from_offset z) := ⟨T.k_Ledger, f13, _, _, ⟨a13_Ledger, i13, k13⟩, G13, (Bnd.pick [0, 1] (by decide) fun us ws h1 h2 => match us, ws, h1, h2 with | [_], [_], _, _ => rfl)⟩
  have G14 : FnG false l.prog w K mg base 3 f14 _ ["self", "capacity"] (PL.S_Ledger_sum_at z) := fng_of Fu14 sc_Ledger_sum_at (PL.len_Ledger_sum_at z) (PL.mo_Ledger_sum_at z) (fun cdv A outer s H E c => d_Ledger_sum_at T R_Ledger_rows cdv A outer s H E c) (PL.p_Ledger_sum_at z)
  have R_Ledger_sum_at : MetC l.prog w K mg base z.Ledger "sum_at" 3 (PL.S_Ledger_sum_at z) := ⟨T.k_Ledger, ⟨f14, ⟨a14_Ledger, i14, k14⟩, frd_plain G14 (Bnd.plain fun us hl => match us, hl with | [_, _], _ => rfl)⟩, (PL.mo_Ledger_sum_at z)⟩
  have H__law_heard : HCal l.prog w K mg base false "_law_heard" 2 (S__law_heard z) := ⟨⟨f22, _, s__law_heard, N__law_heard, "_law_ask", w__law_heard z, PySem.W.mg_of X G a22, Fu22, sc__law_heard, rfl, by first | exact Or.inl rfl | exact Or.inr (Or.inl rfl), by decide, by decide, fun s v => .of_eq rfl, fun d tl hm cdv A outer s H E c act => d__law_heard T C__law_field C__law_word d tl cdv A outer s H E c act, p__law_heard z⟩, mo__law_heard z⟩
  have G25 : FnG false l.prog w K mg base 3 f25 _ ["_law_pen_here", "_law_most"] (S__law_rows z) := fng_of Fu25 sc__law_rows (len__law_rows z) (mo__law_rows z) (fun cdv A outer s H E c => d__law_rows T C__law_amount C__law_draw C__law_offset cdv A outer s H E c) (p__law_rows z)
  have C__law_rows : Cal false l.prog w K mg base "_law_rows" 3 2 [] (fun ds _ => ds) (S__law_rows z) := ⟨⟨f25, _, _, PySem.W.mg_of X G a25, k25, G25, (Bnd.plain fun us hl => match us, hl with | [_, _], _ => rfl)⟩⟩
  have G4 : FnRD l.prog w K mg base 4 f4 (starS 1 (PL.S_Ledger___init__ z)) := frd_star (ps := ["self"]) (pv := "rows") Fu4 sc_Ledger___init__ (PL.len_Ledger___init__ z) (PL.mo_Ledger___init__ z) (fun kV doc pm an cdv ct us rest hl => match us, rest, hl with | [_], [], _ => rfl | [_], _ :: _, _ => rfl) (fun cdv A outer s H E c => d_Ledger___init__ T C_is_row cdv A outer s H E c) (PL.p_Ledger___init__ z)
  have M_Ledger : MakC l.prog w K mg base "Ledger" z.Ledger 4 (starS 1 (PL.S_Ledger___init__ z)) := ⟨⟨f4, ⟨mk0, a4_Ledger, i4, kc0⟩, G4⟩, starS_mo (PL.mo_Ledger___init__ z), PySem.W.mg_of X G aC0⟩
  have G15 : FnG false l.prog w K mg base 4 f15 _ ["self", "capacity"] (S_Ledger___call__ z) := fng_of Fu15 sc_Ledger___call__ (len_Ledger___call__ z) (mo_Ledger___call__ z) (fun cdv A outer s H E c => d_Ledger___call__ T C_need_capacity R_Ledger_sum_at cdv A outer s H E c) (p_Ledger___call__ z)
  have R_Ledger___call__ : CalC l.prog w K mg base z.Ledger 4 (S_Ledger___call__ z) := ⟨⟨f15, ⟨a15_Ledger, i15, j15⟩, frd_plain G15 (Bnd.plain fun us hl => match us, hl with | [_, _], _ => rfl)⟩, (mo_Ledger___call__ z)⟩
  have RK_Ledger___call___capacity : CalKC l.prog w K mg base z.Ledger 4 ["capacity"] (pickD [0, 1]) (S_Ledger___call__ z) := ⟨f15, _, _, ⟨a15_Ledger, i15, j15⟩, G15, (Bnd.pick [0, 1] (by decide) fun us ws h1 h2 => match us, ws, h1, h2 with | [_], [_], _, _ => rfl)⟩
  have G29 : FnG true l.prog w K mg base 4 f29 _ ["_law_pen_here", "_law_made", "_law_due_here"] (S__law_from_right z) := fng_of Fu29 sc__law_from_right (len__law_from_right z) (mo__law_from_right z) (fun cdv A outer s H E c => d__law_from_right T C__law_draw R_Ledger_from_offset RK_Ledger_from_offset_offset cdv A outer s H E c) (p__law_from_right z)
  have C__law_from_right : Cal true l.prog w K mg base "_law_from_right" 4 3 [] (fun ds _ => ds) (S__law_from_right z) := ⟨⟨f29, _, _, PySem.W.mg_of X G a29, k29, G29, (Bnd.plain fun us hl => match us, hl with | [_, _, _], _ => rfl)⟩⟩
  have G8 : FnG false l.prog w K mg base 6 f8 _ ["self", "other"] (PL.S_Ledger___add__ z) := fng_of Fu8 sc_Ledger___add__ (PL.len_Ledger___add__ z) (PL.mo_Ledger___add__ z) (fun cdv A outer s H E c => d_Ledger___add__ T M_Ledger R_Ledger_rows cdv A outer s H E c) (PL.p_Ledger___add__ z)
  have R_Ledger___add__ : Op2C l.prog w K mg base z.Ledger .Add 6 (PL.S_Ledger___add__ z) := ⟨sf0, ⟨f8, a8_Ledger, i8, frd_plain G8 (Bnd.plain fun us hl => match us, hl with | [_, _], _ => rfl)⟩, (PL.mo_Ledger___add__ z)⟩
  have G11 : FnG false l.prog w K mg base 6 f11 _ ["self", "number"] (S_Ledger___mul__ z) := fng_of Fu11 sc_Ledger___mul__ (len_Ledger___mul__ z) (mo_Ledger___mul__ z) (fun cdv A outer s H E c => d_Ledger___mul__ T M_Ledger R_Ledger_rows cdv A outer s H E c) (p_Ledger___mul__ z)
  have R_Ledger___mul__ : OpIC l.prog w K mg base z.Ledger .Mult 6 (S_Ledger___mul__ z) := ⟨⟨f11, ⟨sf0, a11_Ledger, i11, ⟨_, rr11_Ledger, .inl rfl⟩, ⟨_, of11⟩, ⟨_, og11⟩, os11_Ledger⟩, frd_plain G11 (Bnd.plain fun us hl => match us, hl with | [_, _], _ => rfl)⟩, (mo_Ledger___mul__ z)⟩
  have G12 : FnG false l.prog w K mg base 6 f12 _ ["self", "by"] (S_Ledger_moved z) := fng_of Fu12 sc_Ledger_moved (len_Ledger_moved z) (mo_Ledger_moved z) (fun cdv A outer s H E c => d_Ledger_moved T LN_Ledger M_Ledger R_Ledger_greatest R_Ledger_rows X_TooLong cdv A outer s H E c) (p_Ledger_moved z)
  have R_Ledger_moved : MetC l.prog w K mg base z.Ledger "moved" 6 (S_Ledger_moved z) := ⟨T.k_Ledger, ⟨f12, ⟨a12_Ledger, i12, k12⟩, frd_plain G12 (Bnd.plain fun us hl => match us, hl with | [_, _], _ => rfl)⟩, (mo_Ledger_moved z)⟩
  have RK_Ledger_moved_by : MetKC l.prog w K mg base z.Ledger "moved" 6 ["by"] (pickD [0, 1]) (S_Ledger_moved z) := ⟨T.k_Ledger, f12, _, _, ⟨a12_Ledger, i12, k12⟩, G12, (Bnd.pick [0, 1] (by decide) fun us ws h1 h2 => match us, ws, h1, h2 with | [_], [_], _, _ => rfl)⟩
  have G27 : FnG false l.prog w K mg base 6 f27 _ ["_law_rows_here"] (S__law_ledger z) := fng_of Fu27 sc__law_ledger (len__law_ledger z) (mo__law_ledger z) (fun cdv A outer s H E c => d__law_ledger T M_Ledger cdv A outer s H E c) (p__law_ledger z)
  have C__law_ledger : Cal false l.prog w K mg base "_law_ledger" 6 1 [] (fun ds _ => ds) (S__law_ledger z) := ⟨⟨f27, _, _, PySem.W.mg_of X G a27, k27, G27, (Bnd.plain fun us hl => match us, hl with | [_], _ => rfl)⟩⟩
  have G9 : FnG false l.prog w K mg base 7 f9 _ ["self"] (S_Ledger___neg__ z) := fng_of Fu9 sc_Ledger___neg__ (len_Ledger___neg__ z) (mo_Ledger___neg__ z) (fun cdv A outer s H E c => d_Ledger___neg__ T R_Ledger___mul__ cdv A outer s H E c) (p_Ledger___neg__ z)
  have R_Ledger___neg__ : NegC l.prog w K mg base z.Ledger 7 (S_Ledger___neg__ z) := ⟨⟨f9, a9_Ledger, i9, frd_plain G9 (Bnd.plain fun us hl => match us, hl with | [_], _ => rfl)⟩, (mo_Ledger___neg__ z)⟩
  have G33 : FnG true l.prog w K mg base 7 f33 _ ["_law_pen_here", "_law_one", "_law_other"] (S__law_called_right z) := fng_ofC FC__law_called_right sc__law_called_right (len__law_called_right z) (mo__law_called_right z) (fun A outer s H E c => d__law_called_right T C__law_capacity C__law_due C__law_ledger C__law_no_capacity R_Ledger___call__ RK_Ledger___call___capacity R_Ledger___add__ R_Ledger___mul__ H__law_heard TB__law_called_right A outer s H E c) (p__law_called_right z)
  have C__law_called_right : Cal true l.prog w K mg base "_law_called_right" 7 3 [] (fun ds _ => ds) (S__law_called_right z) := ⟨⟨f33, _, _, PySem.W.mg_of X G a33, k33, G33, (Bnd.plain fun us hl => match us, hl with | [_, _, _], _ => rfl)⟩⟩
  have G10 : FnG false l.prog w K mg base 8 f10 _ ["self", "other"] (S_Ledger___sub__ z) := fng_of Fu10 sc_Ledger___sub__ (len_Ledger___sub__ z) (mo_Ledger___sub__ z) (fun cdv A outer s H E c => d_Ledger___sub__ T R_Ledger___neg__ R_Ledger___add__ cdv A outer s H E c) (p_Ledger___sub__ z)
  have R_Ledger___sub__ : Op2C l.prog w K mg base z.Ledger .Sub 8 (S_Ledger___sub__ z) := ⟨sf0, ⟨f10, a10_Ledger, i10, frd_plain G10 (Bnd.plain fun us hl => match us, hl with | [_, _], _ => rfl)⟩, (mo_Ledger___sub__ z)⟩
  have G28 : FnG true l.prog w K mg base 9 f28 _ ["_law_pen_here", "_law_made", "_law_due_here"] (S__law_moved_right z) := fng_ofC FC__law_moved_right sc__law_moved_right (len__law_moved_right z) (mo__law_moved_right z) (fun A outer s H E c => d__law_moved_right T C__law_draw R_Ledger_moved RK_Ledger_moved_by R_Ledger_rows H__law_heard TB__law_moved_right A outer s H E c) (p__law_moved_right z)
  have C__law_moved_right : Cal true l.prog w K mg base "_law_moved_right" 9 3 [] (fun ds _ => ds) (S__law_moved_right z) := ⟨⟨f28, _, _, PySem.W.mg_of X G a28, k28, G28, (Bnd.plain fun us hl => match us, hl with | [_, _, _], _ => rfl)⟩⟩
  have G34 : FnG true l.prog w K mg base 10 fa _ ["_law_script"] (S_law z) := fng_of Fu34 sc_law (len_law z) (mo_law z) (fun cdv A outer s H E c => d_law T C__law_called_right C__law_draw C__law_from_right C__law_ledger C__law_moved_right C__law_pen C__law_rows C__law_sums EQ_Ledger M_Ledger R_Ledger___neg__ R_Ledger___add__ R_Ledger___sub__ R_Ledger___mul__ R_Ledger_rows cdv A outer s H E c) (p_law z)
  exact G34
theorem all_K {l : PySem.W.OpenLaw} {w : World} {K : PySem.W.Frag} {h : Heap} {mg : Str → Option Value} {fa : Addr} (X : K.In h) (G : h.Ns mainGlobals mg) (hfa : mg "law" = some (.ref fa)) (c : Hx.SaX cks fns K)
    : LawT true l w K 10 63 "_law_script" mg fa ["_law_called_right", "_law_moved_right"] :=
  all_mk X G hfa
    (of_decide_eq_true (c.t 0 0 rfl rfl : ck_0 K = true))
    (of_decide_eq_true (c.t 0 1 rfl rfl : ck_1 K = true))
    (of_decide_eq_true (c.t 0 2 rfl rfl : ck_2 K = true))
    (of_decide_eq_true (c.t 0 3 rfl rfl : ck_3 K = true))
    (of_decide_eq_true (c.t 0 4 rfl rfl : ck_4 K = true))
    (of_decide_eq_true (c.t 0 5 rfl rfl : ck_5 K = true))
    (of_decide_eq_true (c.t 0 6 rfl rfl : ck_6 K = true))
    (of_decide_eq_true (c.t 0 7 rfl rfl : ck_7 K = true))
    (of_decide_eq_true (c.t 0 8 rfl rfl : ck_8 K = true))
    (of_decide_eq_true (c.t 0 9 rfl rfl : ck_9 K = true))
    (of_decide_eq_true (c.t 0 10 rfl rfl : ck_10 K = true))
    (of_decide_eq_true (c.t 0 11 rfl rfl : ck_11 K = true))
    (of_decide_eq_true (c.t 0 12 rfl rfl : ck_12 K = true))
    (of_decide_eq_true (c.t 0 13 rfl rfl : ck_13 K = true))
    (of_decide_eq_true (c.t 0 14 rfl rfl : ck_14 K = true))
    (of_decide_eq_true (c.t 0 15 rfl rfl : ck_15 K = true))
    (of_decide_eq_true (c.t 0 16 rfl rfl : ck_16 K = true))
    (of_decide_eq_true (c.t 0 17 rfl rfl : ck_17 K = true))
    (of_decide_eq_true (c.t 0 18 rfl rfl : ck_18 K = true))
    (of_decide_eq_true (c.t 0 19 rfl rfl : ck_19 K = true))
    (of_decide_eq_true (c.t 0 20 rfl rfl : ck_20 K = true))
    (of_decide_eq_true (c.t 0 21 rfl rfl : ck_21 K = true))
    (of_decide_eq_true (c.t 0 22 rfl rfl : ck_22 K = true))
    (of_decide_eq_true (c.t 0 23 rfl rfl : ck_23 K = true))
    (of_decide_eq_true (c.t 0 24 rfl rfl : ck_24 K = true))
    (of_decide_eq_true (c.t 0 25 rfl rfl : ck_25 K = true))
    (of_decide_eq_true (c.t 0 26 rfl rfl : ck_26 K = true))
    (of_decide_eq_true (c.t 0 27 rfl rfl : ck_27 K = true))
    (of_decide_eq_true (c.t 0 28 rfl rfl : ck_28 K = true))
    (of_decide_eq_true (c.t 0 29 rfl rfl : ck_29 K = true))
    (of_decide_eq_true (c.t 0 30 rfl rfl : ck_30 K = true))
    (of_decide_eq_true (c.t 0 31 rfl rfl : ck_31 K = true))
    (of_decide_eq_true (c.t 0 32 rfl rfl : ck_32 K = true))
    (of_decide_eq_true (c.t 0 33 rfl rfl : ck_33 K = true))
    (of_decide_eq_true (c.t 0 34 rfl rfl : ck_34 K = true))
    (of_decide_eq_true (c.t 0 35 rfl rfl : ck_35 K = true))
    (of_decide_eq_true (c.t 0 36 rfl rfl : ck_36 K = true))
    (of_decide_eq_true (c.t 0 37 rfl rfl : ck_37 K = true))
    (of_decide_eq_true (c.t 0 38 rfl rfl : ck_38 K = true))
    (Hx.xc_at (c.t 0 39 rfl rfl : ck_39 K = true))
    (of_decide_eq_true (c.t 1 0 rfl rfl : ck_40 K = true))
    (of_decide_eq_true (c.t 1 1 rfl rfl : ck_41 K = true))
    (of_decide_eq_true (c.t 1 2 rfl rfl : ck_42 K = true))
    (of_decide_eq_true (c.t 1 3 rfl rfl : ck_43 K = true))
    (of_decide_eq_true (c.t 1 4 rfl rfl : ck_44 K = true))
    (Hx.xc_at (c.t 1 5 rfl rfl : ck_45 K = true))
    (of_decide_eq_true (c.t 1 6 rfl rfl : ck_46 K = true))
    (of_decide_eq_true (c.t 1 7 rfl rfl : ck_47 K = true))
    (of_decide_eq_true (c.t 1 8 rfl rfl : ck_48 K = true))
    (of_decide_eq_true (c.t 1 9 rfl rfl : ck_49 K = true))
    (of_decide_eq_true (c.t 1 10 rfl rfl : ck_50 K = true))
    (of_decide_eq_true (c.t 1 11 rfl rfl : ck_51 K = true))
    (of_decide_eq_true (c.t 1 12 rfl rfl : ck_52 K = true))
    (of_decide_eq_true (c.t 1 13 rfl rfl : ck_53 K = true))
    (of_decide_eq_true (c.t 1 14 rfl rfl : ck_54 K = true))
    (of_decide_eq_true (c.t 1 15 rfl rfl : ck_55 K = true))
    (of_decide_eq_true (c.t 1 16 rfl rfl : ck_56 K = true))
    (of_decide_eq_true (c.t 1 17 rfl rfl : ck_57 K = true))
    (of_decide_eq_true (c.t 1 18 rfl rfl : ck_58 K = true))
    (of_decide_eq_true (c.t 1 19 rfl rfl : ck_59 K = true))
    (of_decide_eq_true (c.t 1 20 rfl rfl : ck_60 K = true))
    (of_decide_eq_true (c.t 1 21 rfl rfl : ck_61 K = true))
    (of_decide_eq_true (c.t 1 22 rfl rfl : ck_62 K = true))
    (of_decide_eq_true (c.t 1 23 rfl rfl : ck_63 K = true))
    (of_decide_eq_true (c.t 1 24 rfl rfl : ck_64 K = true))
    (of_decide_eq_true (c.t 1 25 rfl rfl : ck_65 K = true))
    (of_decide_eq_true (c.t 1 26 rfl rfl : ck_66 K = true))
    (of_decide_eq_true (c.t 1 27 rfl rfl : ck_67 K = true))
    (of_decide_eq_true (c.t 1 28 rfl rfl : ck_68 K = true))
    (of_decide_eq_true (c.t 1 29 rfl rfl : ck_69 K = true))
    (of_decide_eq_true (c.t 1 30 rfl rfl : ck_70 K = true))
    (of_decide_eq_true (c.t 1 31 rfl rfl : ck_71 K = true))
    (of_decide_eq_true (c.t 1 32 rfl rfl : ck_72 K = true))
    (of_decide_eq_true (c.t 1 33 rfl rfl : ck_73 K = true))
    (of_decide_eq_true (c.t 1 34 rfl rfl : ck_74 K = true))
    (of_decide_eq_true (c.t 1 35 rfl rfl : ck_75 K = true))
    (of_decide_eq_true (c.t 1 36 rfl rfl : ck_76 K = true))
    (of_decide_eq_true (c.t 1 37 rfl rfl : ck_77 K = true))
    (of_decide_eq_true (c.t 1 38 rfl rfl : ck_78 K = true))
    (of_decide_eq_true (c.t 1 39 rfl rfl : ck_79 K = true))
    (of_decide_eq_true (c.t 2 0 rfl rfl : ck_80 K = true))
    (of_decide_eq_true (c.t 2 1 rfl rfl : ck_81 K = true))
    (of_decide_eq_true (c.t 2 2 rfl rfl : ck_82 K = true))
    (of_decide_eq_true (c.t 2 3 rfl rfl : ck_83 K = true))
    (of_decide_eq_true (c.t 2 4 rfl rfl : ck_84 K = true))
    (of_decide_eq_true (c.t 2 5 rfl rfl : ck_85 K = true))
    (of_decide_eq_true (c.t 2 6 rfl rfl : ck_86 K = true))
    (of_decide_eq_true (c.t 2 7 rfl rfl : ck_87 K = true))
    (of_decide_eq_true (c.t 2 8 rfl rfl : ck_88 K = true))
    (of_decide_eq_true (c.t 2 9 rfl rfl : ck_89 K = true))
    (of_decide_eq_true (c.t 2 10 rfl rfl : ck_90 K = true))
    (of_decide_eq_true (c.t 2 11 rfl rfl : ck_91 K = true))
    (of_decide_eq_true (c.t 2 12 rfl rfl : ck_92 K = true))
    (of_decide_eq_true (c.t 2 13 rfl rfl : ck_93 K = true))
    (of_decide_eq_true (c.t 2 14 rfl rfl : ck_94 K = true))
    (of_decide_eq_true (c.t 2 15 rfl rfl : ck_95 K = true))
    (of_decide_eq_true (c.t 2 16 rfl rfl : ck_96 K = true))
    (of_decide_eq_true (c.t 2 17 rfl rfl : ck_97 K = true))
    (of_decide_eq_true (c.t 2 18 rfl rfl : ck_98 K = true))
    (of_decide_eq_true (c.t 2 19 rfl rfl : ck_99 K = true))
    (of_decide_eq_true (c.t 2 20 rfl rfl : ck_100 K = true))
    (of_decide_eq_true (c.t 2 21 rfl rfl : ck_101 K = true))
    (of_decide_eq_true (c.t 2 22 rfl rfl : ck_102 K = true))
    (of_decide_eq_true (c.t 2 23 rfl rfl : ck_103 K = true))
    (of_decide_eq_true (c.t 2 24 rfl rfl : ck_104 K = true))
    (of_decide_eq_true (c.t 2 25 rfl rfl : ck_105 K = true))
    (of_decide_eq_true (c.t 2 26 rfl rfl : ck_106 K = true))
    (of_decide_eq_true (c.t 2 27 rfl rfl : ck_107 K = true))
    (of_decide_eq_true (c.t 2 28 rfl rfl : ck_108 K = true))
    (of_decide_eq_true (c.t 2 29 rfl rfl : ck_109 K = true))
    (of_decide_eq_true (c.t 2 30 rfl rfl : ck_110 K = true))
    (of_decide_eq_true (c.t 2 31 rfl rfl : ck_111 K = true))
    (of_decide_eq_true (c.t 2 32 rfl rfl : ck_112 K = true))
    (of_decide_eq_true (c.t 2 33 rfl rfl : ck_113 K = true))
    (of_decide_eq_true (c.t 2 34 rfl rfl : ck_114 K = true))
    (of_decide_eq_true (c.t 2 35 rfl rfl : ck_115 K = true))
    (of_decide_eq_true (c.t 2 36 rfl rfl : ck_116 K = true))
    (of_decide_eq_true (c.t 2 37 rfl rfl : ck_117 K = true))
    (of_decide_eq_true (c.t 2 38 rfl rfl : ck_118 K = true))
    (of_decide_eq_true (c.t 2 39 rfl rfl : ck_119 K = true))
    (of_decide_eq_true (c.t 3 0 rfl rfl : ck_120 K = true))
    (of_decide_eq_true (c.t 3 1 rfl rfl : ck_121 K = true))
    (of_decide_eq_true (c.t 3 2 rfl rfl : ck_122 K = true))
    (of_decide_eq_true (c.t 3 3 rfl rfl : ck_123 K = true))
    (of_decide_eq_true (c.t 3 4 rfl rfl : ck_124 K = true))
    (of_decide_eq_true (c.t 3 5 rfl rfl : ck_125 K = true))
    (of_decide_eq_true (c.t 3 6 rfl rfl : ck_126 K = true))
    (of_decide_eq_true (c.t 3 7 rfl rfl : ck_127 K = true))
    (of_decide_eq_true (c.t 3 8 rfl rfl : ck_128 K = true))
    (of_decide_eq_true (c.t 3 9 rfl rfl : ck_129 K = true))
    (of_decide_eq_true (c.t 3 10 rfl rfl : ck_130 K = true))
    (of_decide_eq_true (c.t 3 11 rfl rfl : ck_131 K = true))
    (of_decide_eq_true (c.t 3 12 rfl rfl : ck_132 K = true))
    (of_decide_eq_true (c.t 3 13 rfl rfl : ck_133 K = true))
    (of_decide_eq_true (c.t 3 14 rfl rfl : ck_134 K = true))
    (of_decide_eq_true (c.t 3 15 rfl rfl : ck_135 K = true))
    (of_decide_eq_true (c.t 3 16 rfl rfl : ck_136 K = true))
    (of_decide_eq_true (c.t 3 17 rfl rfl : ck_137 K = true))
    (of_decide_eq_true (c.t 3 18 rfl rfl : ck_138 K = true))
    (of_decide_eq_true (c.t 3 19 rfl rfl : ck_139 K = true))
    (of_decide_eq_true (c.t 3 20 rfl rfl : ck_140 K = true))
    (of_decide_eq_true (c.t 3 21 rfl rfl : ck_141 K = true))
    (of_decide_eq_true (c.t 3 22 rfl rfl : ck_142 K = true))
    (of_decide_eq_true (c.t 3 23 rfl rfl : ck_143 K = true))
    (of_decide_eq_true (c.t 3 24 rfl rfl : ck_144 K = true))
    (of_decide_eq_true (c.t 3 25 rfl rfl : ck_145 K = true))
    (of_decide_eq_true (c.t 3 26 rfl rfl : ck_146 K = true))
    (of_decide_eq_true (c.t 3 27 rfl rfl : ck_147 K = true))
    (of_decide_eq_true (c.t 3 28 rfl rfl : ck_148 K = true))
    (of_decide_eq_true (c.t 3 29 rfl rfl : ck_149 K = true))
    (of_decide_eq_true (c.t 3 30 rfl rfl : ck_150 K = true))
    (c.f 0 (d := fn_0) rfl)
    (of_decide_eq_true (c.t 3 31 rfl rfl : ck_151 K = true))
    (of_decide_eq_true (c.t 3 32 rfl rfl : ck_152 K = true))
    (of_decide_eq_true (c.t 3 33 rfl rfl : ck_153 K = true))
    (c.f 1 (d := fn_1) rfl)
    (of_decide_eq_true (c.t 3 34 rfl rfl : ck_154 K = true))
    (of_decide_eq_true (c.t 3 35 rfl rfl : ck_155 K = true))
    (of_decide_eq_true (c.t 3 36 rfl rfl : ck_156 K = true))
    (c.f 2 (d := fn_2) rfl)
    (of_decide_eq_true (c.t 3 37 rfl rfl : ck_157 K = true))
    (of_decide_eq_true (c.t 3 38 rfl rfl : ck_158 K = true))
    (of_decide_eq_true (c.t 3 39 rfl rfl : ck_159 K = true))
    (c.f 3 (d := fn_3) rfl)
    (of_decide_eq_true (c.t 4 0 rfl rfl : ck_160 K = true))
    (of_decide_eq_true (c.t 4 1 rfl rfl : ck_161 K = true))
    (of_decide_eq_true (c.t 4 2 rfl rfl : ck_162 K = true))
    (of_decide_eq_true (c.t 4 3 rfl rfl : ck_163 K = true))
    (of_decide_eq_true (c.t 4 4 rfl rfl : ck_164 K = true))
    (c.f 4 (d := fn_4) rfl)
    (of_decide_eq_true (c.t 4 5 rfl rfl : ck_165 K = true))
    (of_decide_eq_true (c.t 4 6 rfl rfl : ck_166 K = true))
    (of_decide_eq_true (c.t 4 7 rfl rfl : ck_167 K = true))
    (of_decide_eq_true (c.t 4 8 rfl rfl : ck_168 K = true))
    (of_decide_eq_true (c.t 4 9 rfl rfl : ck_169 K = true))
    (of_decide_eq_true (c.t 4 10 rfl rfl : ck_170 K = true))
    (c.f 5 (d := fn_5) rfl)
    (of_decide_eq_true (c.t 4 11 rfl rfl : ck_171 K = true))
    (of_decide_eq_true (c.t 4 12 rfl rfl : ck_172 K = true))
    (of_decide_eq_true (c.t 4 13 rfl rfl : ck_173 K = true))
    (of_decide_eq_true (c.t 4 14 rfl rfl : ck_174 K = true))
    (of_decide_eq_true (c.t 4 15 rfl rfl : ck_175 K = true))
    (of_decide_eq_true (c.t 4 16 rfl rfl : ck_176 K = true))
    (c.f 6 (d := fn_6) rfl)
    (of_decide_eq_true (c.t 4 17 rfl rfl : ck_177 K = true))
    (of_decide_eq_true (c.t 4 18 rfl rfl : ck_178 K = true))
    (of_decide_eq_true (c.t 4 19 rfl rfl : ck_179 K = true))
    (of_decide_eq_true (c.t 4 20 rfl rfl : ck_180 K = true))
    (of_decide_eq_true (c.t 4 21 rfl rfl : ck_181 K = true))
    (c.f 7 (d := fn_7) rfl)
    (of_decide_eq_true (c.t 4 22 rfl rfl : ck_182 K = true))
    (of_decide_eq_true (c.t 4 23 rfl rfl : ck_183 K = true))
    (of_decide_eq_true (c.t 4 24 rfl rfl : ck_184 K = true))
    (of_decide_eq_true (c.t 4 25 rfl rfl : ck_185 K = true))
    (of_decide_eq_true (c.t 4 26 rfl rfl : ck_186 K = true))
    (c.f 8 (d := fn_8) rfl)
    (of_decide_eq_true (c.t 4 27 rfl rfl : ck_187 K = true))
    (of_decide_eq_true (c.t 4 28 rfl rfl : ck_188 K = true))
    (of_decide_eq_true (c.t 4 29 rfl rfl : ck_189 K = true))
    (of_decide_eq_true (c.t 4 30 rfl rfl : ck_190 K = true))
    (of_decide_eq_true (c.t 4 31 rfl rfl : ck_191 K = true))
    (c.f 9 (d := fn_9) rfl)
    (of_decide_eq_true (c.t 4 32 rfl rfl : ck_192 K = true))
    (of_decide_eq_true (c.t 4 33 rfl rfl : ck_193 K = true))
    (of_decide_eq_true (c.t 4 34 rfl rfl : ck_194 K = true))
    (of_decide_eq_true (c.t 4 35 rfl rfl : ck_195 K = true))
    (of_decide_eq_true (c.t 4 36 rfl rfl : ck_196 K = true))
    (c.f 10 (d := fn_10) rfl)
    (of_decide_eq_true (c.t 4 37 rfl rfl : ck_197 K = true))
    (of_decide_eq_true (c.t 4 38 rfl rfl : ck_198 K = true))
    (of_decide_eq_true (c.t 4 39 rfl rfl : ck_199 K = true))
    (of_decide_eq_true (c.t 5 0 rfl rfl : ck_200 K = true))
    (of_decide_eq_true (c.t 5 1 rfl rfl : ck_201 K = true))
    (of_decide_eq_true (c.t 5 2 rfl rfl : ck_202 K = true))
    (of_decide_eq_true (c.t 5 3 rfl rfl : ck_203 K = true))
    (of_decide_eq_true (c.t 5 4 rfl rfl : ck_204 K = true))
    (of_decide_eq_true (c.t 5 5 rfl rfl : ck_205 K = true))
    (c.f 11 (d := fn_11) rfl)
    (of_decide_eq_true (c.t 5 6 rfl rfl : ck_206 K = true))
    (of_decide_eq_true (c.t 5 7 rfl rfl : ck_207 K = true))
    (of_decide_eq_true (c.t 5 8 rfl rfl : ck_208 K = true))
    (of_decide_eq_true (c.t 5 9 rfl rfl : ck_209 K = true))
    (of_decide_eq_true (c.t 5 10 rfl rfl : ck_210 K = true))
    (c.f 12 (d := fn_12) rfl)
    (of_decide_eq_true (c.t 5 11 rfl rfl : ck_211 K = true))
    (of_decide_eq_true (c.t 5 12 rfl rfl : ck_212 K = true))
    (of_decide_eq_true (c.t 5 13 rfl rfl : ck_213 K = true))
    (of_decide_eq_true (c.t 5 14 rfl rfl : ck_214 K = true))
    (of_decide_eq_true (c.t 5 15 rfl rfl : ck_215 K = true))
    (c.f 13 (d := fn_13) rfl)
    (of_decide_eq_true (c.t 5 16 rfl rfl : ck_216 K = true))
    (of_decide_eq_true (c.t 5 17 rfl rfl : ck_217 K = true))
    (of_decide_eq_true (c.t 5 18 rfl rfl : ck_218 K = true))
    (of_decide_eq_true (c.t 5 19 rfl rfl : ck_219 K = true))
    (of_decide_eq_true (c.t 5 20 rfl rfl : ck_220 K = true))
    (c.f 14 (d := fn_14) rfl)
    (of_decide_eq_true (c.t 5 21 rfl rfl : ck_221 K = true))
    (of_decide_eq_true (c.t 5 22 rfl rfl : ck_222 K = true))
    (of_decide_eq_true (c.t 5 23 rfl rfl : ck_223 K = true))
    (of_decide_eq_true (c.t 5 24 rfl rfl : ck_224 K = true))
    (of_decide_eq_true (c.t 5 25 rfl rfl : ck_225 K = true))
    (c.f 15 (d := fn_15) rfl)
    (of_decide_eq_true (c.t 5 26 rfl rfl : ck_226 K = true))
    (of_decide_eq_true (c.t 5 27 rfl rfl : ck_227 K = true))
    (of_decide_eq_true (c.t 5 28 rfl rfl : ck_228 K = true))
    (of_decide_eq_true (c.t 5 29 rfl rfl : ck_229 K = true))
    (of_decide_eq_true (c.t 5 30 rfl rfl : ck_230 K = true))
    (c.f 16 (d := fn_16) rfl)
    (of_decide_eq_true (c.t 5 31 rfl rfl : ck_231 K = true))
    (of_decide_eq_true (c.t 5 32 rfl rfl : ck_232 K = true))
    (of_decide_eq_true (c.t 5 33 rfl rfl : ck_233 K = true))
    (c.f 17 (d := fn_17) rfl)
    (of_decide_eq_true (c.t 5 34 rfl rfl : ck_234 K = true))
    (of_decide_eq_true (c.t 5 35 rfl rfl : ck_235 K = true))
    (of_decide_eq_true (c.t 5 36 rfl rfl : ck_236 K = true))
    (c.f 18 (d := fn_18) rfl)
    (of_decide_eq_true (c.t 5 37 rfl rfl : ck_237 K = true))
    (of_decide_eq_true (c.t 5 38 rfl rfl : ck_238 K = true))
    (of_decide_eq_true (c.t 5 39 rfl rfl : ck_239 K = true))
    (c.f 19 (d := fn_19) rfl)
    (of_decide_eq_true (c.t 6 0 rfl rfl : ck_240 K = true))
    (of_decide_eq_true (c.t 6 1 rfl rfl : ck_241 K = true))
    (of_decide_eq_true (c.t 6 2 rfl rfl : ck_242 K = true))
    (c.f 20 (d := fn_20) rfl)
    (of_decide_eq_true (c.t 6 3 rfl rfl : ck_243 K = true))
    (of_decide_eq_true (c.t 6 4 rfl rfl : ck_244 K = true))
    (of_decide_eq_true (c.t 6 5 rfl rfl : ck_245 K = true))
    (c.f 21 (d := fn_21) rfl)
    (of_decide_eq_true (c.t 6 6 rfl rfl : ck_246 K = true))
    (of_decide_eq_true (c.t 6 7 rfl rfl : ck_247 K = true))
    (of_decide_eq_true (c.t 6 8 rfl rfl : ck_248 K = true))
    (c.f 22 (d := fn_22) rfl)
    (of_decide_eq_true (c.t 6 9 rfl rfl : ck_249 K = true))
    (of_decide_eq_true (c.t 6 10 rfl rfl : ck_250 K = true))
    (of_decide_eq_true (c.t 6 11 rfl rfl : ck_251 K = true))
    (c.f 23 (d := fn_23) rfl)
    (of_decide_eq_true (c.t 6 12 rfl rfl : ck_252 K = true))
    (of_decide_eq_true (c.t 6 13 rfl rfl : ck_253 K = true))
    (of_decide_eq_true (c.t 6 14 rfl rfl : ck_254 K = true))
    (c.f 24 (d := fn_24) rfl)
    (of_decide_eq_true (c.t 6 15 rfl rfl : ck_255 K = true))
    (of_decide_eq_true (c.t 6 16 rfl rfl : ck_256 K = true))
    (of_decide_eq_true (c.t 6 17 rfl rfl : ck_257 K = true))
    (c.f 25 (d := fn_25) rfl)
    (of_decide_eq_true (c.t 6 18 rfl rfl : ck_258 K = true))
    (of_decide_eq_true (c.t 6 19 rfl rfl : ck_259 K = true))
    (of_decide_eq_true (c.t 6 20 rfl rfl : ck_260 K = true))
    (c.f 26 (d := fn_26) rfl)
    (of_decide_eq_true (c.t 6 21 rfl rfl : ck_261 K = true))
    (of_decide_eq_true (c.t 6 22 rfl rfl : ck_262 K = true))
    (of_decide_eq_true (c.t 6 23 rfl rfl : ck_263 K = true))
    (c.f 27 (d := fn_27) rfl)
    (of_decide_eq_true (c.t 6 24 rfl rfl : ck_264 K = true))
    (of_decide_eq_true (c.t 6 25 rfl rfl : ck_265 K = true))
    (of_decide_eq_true (c.t 6 26 rfl rfl : ck_266 K = true))
    (Hx.fn_c (c.f 28 (d := fn_28) rfl) (of_decide_eq_true (c.t 6 27 rfl rfl : ck_267 K = true)))
    (of_decide_eq_true (c.t 6 28 rfl rfl : ck_268 K = true))
    (of_decide_eq_true (c.t 6 29 rfl rfl : ck_269 K = true))
    (Hx.fl_at (c.t 6 30 rfl rfl : ck_270 K = true))
    (of_decide_eq_true (c.t 6 31 rfl rfl : ck_271 K = true))
    (Hx.no_at (c.t 6 32 rfl rfl : ck_272 K = true))
    (of_decide_eq_true (c.t 6 33 rfl rfl : ck_273 K = true))
    (c.f 29 (d := fn_29) rfl)
    (of_decide_eq_true (c.t 6 34 rfl rfl : ck_274 K = true))
    (of_decide_eq_true (c.t 6 35 rfl rfl : ck_275 K = true))
    (of_decide_eq_true (c.t 6 36 rfl rfl : ck_276 K = true))
    (c.f 30 (d := fn_30) rfl)
    (of_decide_eq_true (c.t 6 37 rfl rfl : ck_277 K = true))
    (of_decide_eq_true (c.t 6 38 rfl rfl : ck_278 K = true))
    (of_decide_eq_true (c.t 6 39 rfl rfl : ck_279 K = true))
    (c.f 31 (d := fn_31) rfl)
    (of_decide_eq_true (c.t 7 0 rfl rfl : ck_280 K = true))
    (of_decide_eq_true (c.t 7 1 rfl rfl : ck_281 K = true))
    (of_decide_eq_true (c.t 7 2 rfl rfl : ck_282 K = true))
    (c.f 32 (d := fn_32) rfl)
    (of_decide_eq_true (c.t 7 3 rfl rfl : ck_283 K = true))
    (of_decide_eq_true (c.t 7 4 rfl rfl : ck_284 K = true))
    (of_decide_eq_true (c.t 7 5 rfl rfl : ck_285 K = true))
    (Hx.fn_c (c.f 33 (d := fn_33) rfl) (of_decide_eq_true (c.t 7 6 rfl rfl : ck_286 K = true)))
    (of_decide_eq_true (c.t 7 7 rfl rfl : ck_287 K = true))
    (of_decide_eq_true (c.t 7 8 rfl rfl : ck_288 K = true))
    (Hx.fl_at (c.t 7 9 rfl rfl : ck_289 K = true))
    (of_decide_eq_true (c.t 7 10 rfl rfl : ck_290 K = true))
    (Hx.no_at (c.t 7 11 rfl rfl : ck_291 K = true))
    (of_decide_eq_true (c.t 7 12 rfl rfl : ck_292 K = true))
    (c.f 34 (d := fn_34) rfl)
    (of_decide_eq_true (c.t 7 13 rfl rfl : ck_293 K = true))
    (of_decide_eq_true (c.t 7 14 rfl rfl : ck_294 K = true))
    (c.f 35 (d := fn_35) rfl)
    (of_decide_eq_true (c.t 7 15 rfl rfl : ck_295 K = true))
    (of_decide_eq_true (c.t 7 16 rfl rfl : ck_296 K = true))
    (c.f 36 (d := fn_36) rfl)
    (of_decide_eq_true (c.t 7 17 rfl rfl : ck_297 K = true))
    (of_decide_eq_true (c.t 7 18 rfl rfl : ck_298 K = true))
    (of_decide_eq_true (c.t 7 19 rfl rfl : ck_299 K = true))
    (of_decide_eq_true (c.t 7 20 rfl rfl : ck_300 K = true))
    (of_decide_eq_true (c.t 7 21 rfl rfl : ck_301 K = true))
    (of_decide_eq_true (c.t 7 22 rfl rfl : ck_302 K = true))
    (of_decide_eq_true (c.t 7 23 rfl rfl : ck_303 K = true))
    (of_decide_eq_true (c.t 7 24 rfl rfl : ck_304 K = true))
    (of_decide_eq_true (c.t 7 25 rfl rfl : ck_305 K = true))
    (of_decide_eq_true (c.t 7 26 rfl rfl : ck_306 K = true))
    (of_decide_eq_true (c.t 7 27 rfl rfl : ck_307 K = true))
    (of_decide_eq_true (c.t 7 28 rfl rfl : ck_308 K = true))
    (of_decide_eq_true (c.t 7 29 rfl rfl : ck_309 K = true))
    (of_decide_eq_true (c.t 7 30 rfl rfl : ck_310 K = true))
    (of_decide_eq_true (c.t 7 31 rfl rfl : ck_311 K = true))
    (of_decide_eq_true (c.t 7 32 rfl rfl : ck_312 K = true))
    (of_decide_eq_true (c.t 7 33 rfl rfl : ck_313 K = true))
    (of_decide_eq_true (c.t 7 34 rfl rfl : ck_314 K = true))
    (of_decide_eq_true (c.t 7 35 rfl rfl : ck_315 K = true))
    (of_decide_eq_true (c.t 7 36 rfl rfl : ck_316 K = true))
    (of_decide_eq_true (c.t 7 37 rfl rfl : ck_317 K = true))
    (of_decide_eq_true (c.t 7 38 rfl rfl : ck_318 K = true))
end K26
open PySem PySem.W PyProof.Rows
set_option maxRecDepth 100000 in
set_option maxHeartbeats 0 in
theorem PySem.Challenge.cw_forkecho_k26_ledgers_added_and_moved_holds : PySem.Challenge.rw_forkecho_k26_ledgers_added_and_moved.Holds := by
  w_on; o_law
  refine HandSHeadRun.head_any (r := OpenLaw.row PySem.Challenge.rw_forkecho_k26_ledgers_added_and_moved) (q := view (OpenLaw.row PySem.Challenge.rw_forkecho_k26_ledgers_added_and_moved).prog [50, 55, 56]) (H := K26.hk) (ob := K26.ob) (M := 100000) (loose := K26.names) (d := HandSHeadRun.topDef (OpenLaw.row PySem.Challenge.rw_forkecho_k26_ledgers_added_and_moved).prog 56) (kwd := []) K26.ob_eq (by kernel_rfl) (fun s => by kernel_rfl) K26.run (by kernel_rfl) (by kernel_rfl) (by kernel_rfl) (by rfl) (by first | assumption | decide +kernel) (by decide +kernel) ⟨rfl, rfl, rfl, rfl, rfl, by decide +kernel⟩ ?hw ?hc
  case hw => w_witness2
  case hc =>
    refine Hx.walkXT (gz := true) (l := PySem.Challenge.rw_forkecho_k26_ledgers_added_and_moved) (n := 63) (k := 10) (x := "_law_script") (names := ["_law_called_right", "_law_moved_right"]) rfl (by decide) (by kernel_rfl) ⟨rfl, by decide, by decide⟩ (by decide +kernel) ?F
    intro w mg fa h Y G hmg0
    obtain ⟨K, KX, c⟩ := Y
    have hmg : mg ("law" : PySem.Str) = some (.ref fa) := by
      have e : (HandSHeadRun.topDef (OpenLaw.row PySem.Challenge.rw_forkecho_k26_ledgers_added_and_moved).prog 56).name = ("law" : PySem.Str) := by kernel_rfl
      rw [← e]; exact hmg0
    exact ⟨K, KX, K26.all_K KX G hmg c⟩
#print axioms PySem.Challenge.cw_forkecho_k26_ledgers_added_and_moved_holds
