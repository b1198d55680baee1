import PyProof.Rows.All
import Wide.All
import OpenK.AllK
import Wide.FinOn
import PyProof.EqAt
import PyProof.EqKinds
import PyProof.TupleCall
import HandS.ForMost
import HandS.ForExc
import HandS.Lambda
import HandS.TupAny
import HandS.TupMul
import HandS.Wide
import HandS.IsInst
import HandS.SortInts
import HandS.DictComp
import HandS.Zip
import HandS.Style
import HandS.SortRule
import HandS.Conv
import HandS.Codes
import HandS.DictTup
import KE.GoesEnum
import KE.GoesMore
import HandS.Iter
import HandS.Ends
import KE.KStateDown
import HandS.Head0
import HandS.Head1
import HandS.Head2
import HandS.HeadHook1
import HandS.HeadHook2
import HandS.ExcInit
import HandS.ExcField
import HandS.ExcIs
import HandS.ExcOwn
import KE.KExcInit
import HandS.EndBits
import HandS.EndTab
import KE.KNest
import KE.KUnpackStar
import HandS.More
import HandS.Defaults
import HandS.Star
import HandS.Property
import HandS.SlotsOwn
import KE.KOpsOwn
import HandS.Flow
import HandS.ListItems
import KE.KItemsList
import KE.KEqNest
import HandS.SortKw
import KE.DataMinMax
import PyProof.RulesMatch
import HandS.ClsMeth
import HandS.SetFor
import KE.KExcIs
import HandS.OwnEq
import PyProof.InstNe
import HandS.DictSub
import HandS.MakeKw
import HandS.Deep
import PyProof.FactsAll.dict_1
import PyProof.FactsAll.subtypes_4
import PyProof.NeKinds
import HandS.NamedTupGet
import PySem.Challenge.RW_forkecho_k71_readings_added
set_option Elab.async false
set_option linter.all false
set_option maxRecDepth 100000
set_option maxHeartbeats 4000000
namespace DL
open PySem PySem.Spec L2
/-! ### data: values as trees; what may be changed is a ref -/
inductive D where
  | non | bl (b : Bool) | int (i : Int) | str (s : Str) | ref (a : Addr) | ty (n : String)
  | tup (xs : List D) | tpl (xs : List D) | lst (xs : List D) | lk (xs : List D) | ob (C : Addr) (fs : List (Str × D)) | xob (C : Addr) (fs : List (Str × D)) | lam (f c : Addr) (q : Str) (ρ : List (Option D)) (σ : List (Option V)) | dK (kvs : List (Key × D)) | dT (kvs : List (List Key × D))
/-- an object that may change -/
inductive AO where
  | lst (xs : List D) | dK (kvs : List (Key × D)) | dT (kvs : List (List Key × D)) | ins (C : Addr) (fs : List (Str × D)) | lck (xs : List D) | tab (q : Str) | lckK (o : Obj) (kvs : List (Key × D))
abbrev AH := Addr → Option AO
def up (h : AH) (a : Addr) (o : AO) : AH := fun b => if b = a then some o else h b
@[simp] theorem up_same {h : AH} {a : Addr} {o : AO} : up h a o a = some o := by simp [up]
theorem up_ne {h : AH} {a b : Addr} {o : AO} (e : b ≠ a) : up h a o b = h b := by simp [up, e]
@[simp] theorem up_up {h : AH} {a : Addr} {o u : AO} : up (up h a o) a u = up h a u := by
  funext b; unfold up; split <;> rfl
/-- Sub g h: g is a part of h -/
def Sub (g h : AH) : Prop := ∀ a o, g a = some o → h a = some o
theorem Sub.refl (h : AH) : Sub h h := fun _ _ e => e
theorem Sub.trans {f g h : AH} (a : Sub f g) (b : Sub g h) : Sub f h := fun c o e => b c o (a c o e)
theorem sub_up {h : AH} {p : Addr} {o : AO} (e : h p = none) : Sub h (up h p o) := fun a u q => by
  rw [up_ne]; exact q
  rintro rfl; rw [e] at q; cases q
/-- an exception that is kept: its class, its dict -/
def exV (a C : Addr) (d : Option Addr) : HO := .ext fun h => ∃ (oe : Obj) (vs : Array Value), h.get? a = some oe ∧ Zc (.ref C) d oe ∧ oe.data = .fields vs
mutual
inductive Rep (K : PySem.W.Frag) (F : Hp) : D → V → Prop where
  | non : Rep K F .non .non
  | bl (b : Bool) : Rep K F (.bl b) (.bl b)
  | int (i : Int) : Rep K F (.int i) (.int i)
  | str (s : Str) : Rep K F (.str s) (.str s)
  | ref (a : Addr) : Rep K F (.ref a) (.ref a)
  | ty (n : String) : Rep K F (.ty n) (.ty n)
  | tup {a : Addr} {xs : List D} {vs : List V} (h : SqT K F a vs) (r : Reps K F xs vs) : Rep K F (.tup xs) (.ref a)
  | tpl {a : Addr} {ob : Obj} {xs : List D} {vs : List V} (h : F a = some (.frz ob (.tup vs))) (hd : ob.dict = none) (r : Reps K F xs vs) : Rep K F (.tpl xs) (.ref a)
  | lst {a : Addr} {xs : List D} {vs : List V} (h : F a = some (.lst vs)) (r : Reps K F xs vs) : Rep K F (.lst xs) (.ref a)
  | lk {a : Addr} {xs : List D} {vs : List V} (h : SqL K F a vs) (r : Reps K F xs vs) : Rep K F (.lk xs) (.ref a)
  | dK {a : Addr} {xs : List (Key × D)} {vs : List (Key × V)} (h : F a = some (.dK vs)) (r : RepK K F xs vs) : Rep K F (.dK xs) (.ref a)
  | dT {a : Addr} {xs : List (List Key × D)} {vs : List (List Key × V)} (h : F a = some (.dT vs)) (r : RepT K F xs vs) : Rep K F (.dT xs) (.ref a)
  | ob {a C : Addr} {dx : Addr} {xs : List (Str × D)} {vs : List (Str × V)} (h : F a = some (.ins C dx vs)) (r : RepF K F xs vs) : Rep K F (.ob C xs) (.ref a)
  | xob0 {a C : Addr} (h : F a = some (exV a C none)) : Rep K F (.xob C []) (.ref a)
  | xob {a C dx : Addr} {xs : List (Str × D)} {vs : List (Str × V)} (h : F a = some (exV a C (some dx))) (hd : F dx = some (.xd vs)) (r : RepF K F xs vs) : Rep K F (.xob C xs) (.ref a)
  | lam {f c : Addr} {q : Str} {ρ : List (Option D)} {σ : List (Option V)} (h : F c = some (LamX.CodeO c q)) (r : RepE K F ρ σ) : Rep K F (.lam f c q ρ σ) (.ref f)
inductive Reps (K : PySem.W.Frag) (F : Hp) : List D → List V → Prop where
  | nil : Reps K F [] []
  | cons {x : D} {v : V} {xs : List D} {vs : List V} (h : Rep K F x v) (t : Reps K F xs vs) : Reps K F (x :: xs) (v :: vs)
inductive RepK (K : PySem.W.Frag) (F : Hp) : List (Key × D) → List (Key × V) → Prop where
  | nil : RepK K F [] []
  | cons {k : Key} {x : D} {v : V} {xs : List (Key × D)} {vs : List (Key × V)} (h : Rep K F x v) (t : RepK K F xs vs) : RepK K F ((k, x) :: xs) ((k, v) :: vs)
inductive RepT (K : PySem.W.Frag) (F : Hp) : List (List Key × D) → List (List Key × V) → Prop where
  | nil : RepT K F [] []
  | cons {k : List Key} {x : D} {v : V} {xs : List (List Key × D)} {vs : List (List Key × V)} (h : Rep K F x v) (t : RepT K F xs vs) : RepT K F ((k, x) :: xs) ((k, v) :: vs)
inductive RepE (K : PySem.W.Frag) (F : Hp) : List (Option D) → List (Option V) → Prop where
  | nil : RepE K F [] []
  | none {ρ : List (Option D)} {σ : List (Option V)} {v : Option V} (t : RepE K F ρ σ) : RepE K F (none :: ρ) (v :: σ)
  | cons {d : D} {v : V} {ρ : List (Option D)} {σ : List (Option V)} (h : Rep K F d v) (t : RepE K F ρ σ) : RepE K F (some d :: ρ) (some v :: σ)
inductive RepF (K : PySem.W.Frag) (F : Hp) : List (Str × D) → List (Str × V) → Prop where
  | nil : RepF K F [] []
  | cons {k : Str} {x : D} {v : V} {xs : List (Str × D)} {vs : List (Str × V)} (h : Rep K F x v) (t : RepF K F xs vs) : RepF K F ((k, x) :: xs) ((k, v) :: vs)
end
def Ext (F F' : Hp) : Prop := ∀ a o, F a = some o → F' a = some o
theorem Ext.refl (F : Hp) : Ext F F := fun _ _ e => e
theorem Ext.trans {F G H : Hp} (a : Ext F G) (b : Ext G H) : Ext F H := fun c o e => b c o (a c o e)
theorem ext_upd {F : Hp} {p : Addr} {o : HO} (e : F p = none) : Ext F (upd F p o) := fun a u q => by
  rw [upd_ne]; exact q
  rintro rfl; rw [e] at q; cases q
theorem Ext.sqt {K : PySem.W.Frag} {F F' : Hp} {a : Addr} {vs : List V} (e : Ext F F') (h : SqT K F a vs) : SqT K F' a vs := by
  rcases h with (h | ⟨o, h⟩) | h
  · exact .inl (.inl (e _ _ h))
  · exact .inl (.inr ⟨o, e _ _ h⟩)
  · exact .inr h
theorem Ext.sql {K : PySem.W.Frag} {F F' : Hp} {a : Addr} {vs : List V} (e : Ext F F') (h : SqL K F a vs) : SqL K F' a vs := by
  rcases h with (h | ⟨o, h⟩) | h
  · exact .inl (.inl (e _ _ h))
  · exact .inl (.inr ⟨o, e _ _ h⟩)
  · exact .inr h
section
variable {K : PySem.W.Frag} {F F' : Hp}
mutual
theorem Rep.ext (e : Ext F F') : ∀ {x : D} {v : V}, Rep K F x v → Rep K F' x v
  | _, _, .non => .non
  | _, _, .bl b => .bl b
  | _, _, .int i => .int i
  | _, _, .str s => .str s
  | _, _, .ref a => .ref a
  | _, _, .ty n => .ty n
  | _, _, .tup h r => .tup (e.sqt h) (Reps.ext e r)
  | _, _, .tpl h hd r => .tpl (e _ _ h) hd (Reps.ext e r)
  | _, _, .lst h r => .lst (e _ _ h) (Reps.ext e r)
  | _, _, .lk h r => .lk (e.sql h) (Reps.ext e r)
  | _, _, .dK h r => .dK (e _ _ h) (RepK.ext e r)
  | _, _, .dT h r => .dT (e _ _ h) (RepT.ext e r)
  | _, _, .ob h r => .ob (e _ _ h) (RepF.ext e r)
  | _, _, .xob0 h => .xob0 (e _ _ h)
  | _, _, .xob h hd r => .xob (e _ _ h) (e _ _ hd) (RepF.ext e r)
  | _, _, .lam h r => .lam (e _ _ h) (RepE.ext e r)
theorem Reps.ext (e : Ext F F') : ∀ {xs : List D} {vs : List V}, Reps K F xs vs → Reps K F' xs vs
  | _, _, .nil => .nil
  | _, _, .cons h t => .cons (Rep.ext e h) (Reps.ext e t)
theorem RepK.ext (e : Ext F F') : ∀ {xs : List (Key × D)} {vs : List (Key × V)}, RepK K F xs vs → RepK K F' xs vs
  | _, _, .nil => .nil
  | _, _, .cons h t => .cons (Rep.ext e h) (RepK.ext e t)
theorem RepT.ext (e : Ext F F') : ∀ {xs : List (List Key × D)} {vs : List (List Key × V)}, RepT K F xs vs → RepT K F' xs vs
  | _, _, .nil => .nil
  | _, _, .cons h t => .cons (Rep.ext e h) (RepT.ext e t)
theorem RepE.ext (e : Ext F F') : ∀ {xs : List (Option D)} {vs : List (Option V)}, RepE K F xs vs → RepE K F' xs vs
  | _, _, .nil => .nil
  | _, _, .none t => .none (RepE.ext e t)
  | _, _, .cons h t => .cons (Rep.ext e h) (RepE.ext e t)
theorem RepF.ext (e : Ext F F') : ∀ {xs : List (Str × D)} {vs : List (Str × V)}, RepF K F xs vs → RepF K F' xs vs
  | _, _, .nil => .nil
  | _, _, .cons h t => .cons (Rep.ext e h) (RepF.ext e t)
end
theorem Reps.length : ∀ {xs : List D} {vs : List V}, Reps K F xs vs → xs.length = vs.length
  | _, _, .nil => rfl
  | _, _, .cons _ t => by simp [Reps.length t]
theorem Reps.append : ∀ {xs ys : List D} {vs ws : List V}, Reps K F xs vs → Reps K F ys ws → Reps K F (xs ++ ys) (vs ++ ws)
  | _, _, _, _, .nil, s => s
  | _, _, _, _, .cons h t, s => .cons h (Reps.append t s)
theorem Reps.get : ∀ {xs : List D} {vs : List V} {i : Nat} {x : D}, Reps K F xs vs → xs[i]? = some x → ∃ v, vs[i]? = some v ∧ Rep K F x v
  | _, _, _, _, .nil, e => by simp at e
  | _, _, 0, _, .cons h _, e => by simp at e; subst e; exact ⟨_, rfl, h⟩
  | _, _, i + 1, x, .cons _ t, e => by
    obtain ⟨v, h1, h2⟩ := Reps.get (i := i) (x := x) t (by simpa using e)
    exact ⟨v, by simpa using h1, h2⟩
theorem Reps.set {x : D} {v : V} (r : Rep K F x v) : ∀ {xs : List D} {vs : List V} (i : Nat), Reps K F xs vs → Reps K F (xs.set i x) (vs.set i v)
  | _, _, _, .nil => .nil
  | _, _, 0, .cons _ t => .cons r t
  | _, _, i + 1, .cons q t => .cons q (Reps.set r i t)
theorem Reps.take : ∀ {xs : List D} {vs : List V} (n : Nat), Reps K F xs vs → Reps K F (xs.take n) (vs.take n)
  | _, _, 0, _ => .nil
  | _, _, _ + 1, .nil => .nil
  | _, _, n + 1, .cons r t => .cons r (Reps.take n t)
theorem Reps.drop : ∀ {xs : List D} {vs : List V} (n : Nat), Reps K F xs vs → Reps K F (xs.drop n) (vs.drop n)
  | _, _, 0, r => r
  | _, _, _ + 1, .nil => .nil
  | _, _, n + 1, .cons _ t => Reps.drop n t
end
def RepO (K : PySem.W.Frag) (F : Hp) : AO → HO → Prop
  | .lst xs, u => ∃ vs, u = .lst vs ∧ Reps K F xs vs
  | .dK kvs, u => ∃ vs, u = .dK vs ∧ RepK K F kvs vs
  | .dT kvs, u => ∃ vs, u = .dT vs ∧ RepT K F kvs vs
  | .ins C fs, u => ∃ dx vs, u = .ins C dx vs ∧ RepF K F fs vs
  | .lck xs, u => ∃ o vs, u = .frz o (.lst vs) ∧ Reps K F xs vs
  | .lckK o kvs, u => ∃ vs, u = .frz o (.dK vs) ∧ RepK K F kvs vs
  | .tab q, u => ∃ ps : Array Value, u = .tbl ps ∧ TriplesOk ps.toList ∧ ∀ (pos : Pos) (cv : Value), codeAmong pos ps.toList = some cv → ∃ c, cv = .ref c ∧ F c = some (LamX.CodeO c q)
theorem RepO.ext {K : PySem.W.Frag} {F F' : Hp} (e : Ext F F') : ∀ {o : AO} {u : HO}, RepO K F o u → RepO K F' o u
  | .lst _, _, ⟨vs, a, r⟩ => ⟨vs, a, r.ext e⟩
  | .dK _, _, ⟨vs, a, r⟩ => ⟨vs, a, r.ext e⟩
  | .dT _, _, ⟨vs, a, r⟩ => ⟨vs, a, r.ext e⟩
  | .ins _ _, _, ⟨dx, vs, a, r⟩ => ⟨dx, vs, a, r.ext e⟩
  | .lck _, _, ⟨o, vs, a, r⟩ => ⟨o, vs, a, r.ext e⟩
  | .lckK _ _, _, ⟨vs, a, r⟩ => ⟨vs, a, r.ext e⟩
  | .tab _, _, ⟨ps, a, t, r⟩ => ⟨ps, a, t, fun pos cv z => let ⟨c, e1, e2⟩ := r pos cv z; ⟨c, e1, e _ _ e2⟩⟩
structure Sim (K : PySem.W.Frag) (F : Hp) (h : AH) (H : Hp) : Prop where
  fz : ∀ a o, F a = some o → H a = some o
  ob : ∀ a o, h a = some o → F a = none ∧ ∃ u, H a = some u ∧ RepO K F o u
section
variable {K : PySem.W.Frag} {F : Hp} {h g : AH} {H : Hp} {p : Addr}
theorem Sim.sub (S : Sim K F h H) (s : Sub g h) : Sim K F g H := ⟨S.fz, fun a o e => S.ob a o (s a o e)⟩
theorem Sim.free (S : Sim K F h H) (e : H p = none) : F p = none ∧ h p = none := by
  refine ⟨?_, ?_⟩
  · cases q : F p with
    | none => rfl
    | some o => rw [S.fz _ _ q] at e; cases e
  · cases q : h p with
    | none => rfl
    | some o => obtain ⟨_, u, e', _⟩ := S.ob _ _ q; rw [e'] at e; cases e
/-- a new object, never to change -/
theorem Sim.newF (S : Sim K F h H) (e : H p = none) (u : HO) : Sim K (upd F p u) h (upd H p u) := by
  obtain ⟨e1, e2⟩ := S.free e
  refine ⟨fun a o q => ?_, fun a o q => ?_⟩
  · by_cases c : a = p
    · subst c; rw [upd_same] at q ⊢; exact q
    · rw [upd_ne c] at q ⊢; exact S.fz _ _ q
  · have c : a ≠ p := by rintro rfl; rw [e2] at q; cases q
    obtain ⟨f, w, hw, r⟩ := S.ob _ _ q
    rw [upd_ne c, upd_ne c]
    exact ⟨f, w, hw, r.ext (ext_upd e1)⟩
/-- a new object that may change -/
theorem Sim.newM (S : Sim K F h H) (e : H p = none) {o : AO} {u : HO} (r : RepO K F o u) : Sim K F (up h p o) (upd H p u) := by
  obtain ⟨e1, e2⟩ := S.free e
  refine ⟨fun a v q => ?_, fun a v q => ?_⟩
  · have c : a ≠ p := by rintro rfl; rw [e1] at q; cases q
    rw [upd_ne c]; exact S.fz _ _ q
  · by_cases c : a = p
    · subst c; rw [up_same] at q; cases q; exact ⟨e1, u, upd_same, r⟩
    · rw [up_ne c] at q; rw [upd_ne c]; exact S.ob _ _ q
/-- an object changes -/
theorem Sim.put (S : Sim K F h H) {o0 : AO} (e : h p = some o0) {o : AO} {u : HO} (r : RepO K F o u) : Sim K F (up h p o) (upd H p u) := by
  obtain ⟨e1, _⟩ := S.ob _ _ e
  refine ⟨fun a v q => ?_, fun a v q => ?_⟩
  · have c : a ≠ p := by rintro rfl; rw [e1] at q; cases q
    rw [upd_ne c]; exact S.fz _ _ q
  · by_cases c : a = p
    · subst c; rw [up_same] at q; cases q; exact ⟨e1, u, upd_same, r⟩
    · rw [up_ne c] at q; rw [upd_ne c]; exact S.ob _ _ q
end
abbrev EnvD := List (Option D)
def EnvR (K : PySem.W.Frag) (F : Hp) (ρ : EnvD) (σ : St) : Prop := σ.length = ρ.length ∧ ∀ (i : Nat) d, ρ[i]? = some (some d) → ∃ v, σ[i]? = some (some v) ∧ Rep K F d v
theorem EnvR.ext {K : PySem.W.Frag} {F F' : Hp} (e : Ext F F') {ρ : EnvD} {σ : St} (r : EnvR K F ρ σ) : EnvR K F' ρ σ :=
  ⟨r.1, fun i d h => let ⟨v, a, b⟩ := r.2 i d h; ⟨v, a, b.ext e⟩⟩
theorem EnvR.set {K : PySem.W.Frag} {F : Hp} {ρ : EnvD} {σ : St} (r : EnvR K F ρ σ) {d : D} {v : V} (q : Rep K F d v) (i : Nat) : EnvR K F (ρ.set i (some d)) (σ.set i (some v)) := by
  refine ⟨by simp [r.1], fun j x e => ?_⟩
  by_cases c : i = j
  · subst c
    by_cases l : i < ρ.length
    · rw [List.getElem?_set_self l] at e; cases e
      exact ⟨v, List.getElem?_set_self (by rw [r.1]; exact l), q⟩
    · rw [List.getElem?_eq_none (by simpa using l)] at e; cases e
  · rw [List.getElem?_set_ne c] at e ⊢
    exact r.2 j x e
theorem RepE.env {K : PySem.W.Frag} {F : Hp} : ∀ {ρ : EnvD} {σ : St}, RepE K F ρ σ → EnvR K F ρ σ
  | _, _, .nil => ⟨rfl, fun i d h => by simp at h⟩
  | _, _, .none t => by
    obtain ⟨l, h⟩ := RepE.env t
    refine ⟨by simp [l], fun i d e => ?_⟩
    cases i with
    | zero => simp at e
    | succ i => simpa using h i d (by simpa using e)
  | _, _, .cons (v := v) r t => by
    obtain ⟨l, h⟩ := RepE.env t
    refine ⟨by simp [l], fun i d e => ?_⟩
    cases i with
    | zero =>
      obtain rfl := Option.some.inj (Option.some.inj (by simpa using e))
      exact ⟨v, by simp, r⟩
    | succ i => simpa using h i d (by simpa using e)
theorem EnvR.rep {K : PySem.W.Frag} {F : Hp} : ∀ {ρ : EnvD} {σ : St}, EnvR K F ρ σ → RepE K F ρ σ
  | [], σ, ⟨l, _⟩ => by
    cases σ with
    | nil => exact .nil
    | cons _ _ => cases l
  | x :: ρ, σ, ⟨l, h⟩ => by
    cases σ with
    | nil => cases l
    | cons v σ =>
      have t : RepE K F ρ σ := EnvR.rep ⟨by simpa using l, fun i d e => by simpa using h (i + 1) d (by simpa using e)⟩
      cases x with
      | none => exact .none t
      | some d =>
        obtain ⟨v', e, r⟩ := h 0 d (by simp)
        obtain rfl : v = some v' := by simpa using e
        exact .cons r t
/-! ### exceptions -/
inductive DX where
  | own (C : Addr) (fs : List (Str × D)) | blt (n : String)
def RepX (K : PySem.W.Frag) (F H : Hp) : DX → Value → Option Addr → Prop
  | .own C fs, cls, d => cls = .ref C ∧ ((fs = [] ∧ d = none) ∨ ∃ dd vs, d = some dd ∧ H dd = some (.xd vs) ∧ RepF K F fs vs)
  | .blt n, cls, _ => cls = .type n
abbrev KD := D → AH → Prop
abbrev KX := DX → AH → Prop
abbrev WE := EnvD → AH → KD → KX → Prop
abbrev WT := EnvD → AH → (Bool → AH → Prop) → KX → Prop
abbrev WA := EnvD → AH → (List D → AH → Prop) → KX → Prop
structure EndsD where
  nx : EnvD → AH → Prop
  rt : KD
  bk : EnvD → AH → Prop := fun _ _ => False
  ct : EnvD → AH → Prop := fun _ _ => False
  ex : KX
abbrev WS := EndsD → EnvD → AH → Prop
/-! ### the lifts -/
def LQ (K : PySem.W.Frag) (F : Hp) (Q : VK) : KD := fun d h' => ∀ F' H' v, Ext F F' → Sim K F' h' H' → Rep K F' d v → Q v H'
def LB (K : PySem.W.Frag) (F : Hp) (Q : Bool → Hp → Prop) : Bool → AH → Prop := fun b h' => ∀ F' H', Ext F F' → Sim K F' h' H' → Q b H'
def LA (K : PySem.W.Frag) (F : Hp) (Q : List V → Hp → Prop) : List D → AH → Prop := fun ds h' => ∀ F' H' vs, Ext F F' → Sim K F' h' H' → Reps K F' ds vs → Q vs H'
def LS (K : PySem.W.Frag) (F : Hp) (Q : St → Hp → Prop) : EnvD → AH → Prop := fun ρ' h' => ∀ F' H' σ', Ext F F' → Sim K F' h' H' → EnvR K F' ρ' σ' → Q σ' H'
def LX (K : PySem.W.Frag) (F : Hp) (E : XK) : KX := fun x h' => ∀ F' H' cls d, Ext F F' → Sim K F' h' H' → RepX K F' H' x cls d → E cls d H'
def LD (K : PySem.W.Frag) (F : Hp) (D : Ends) (E : XK) : EndsD := { nx := LS K F D.nx, rt := LQ K F D.rt, bk := LS K F D.bk, ct := LS K F D.ct, ex := LX K F E }
section
variable {K : PySem.W.Frag} {F F' : Hp}
theorem LQ.ext (e : Ext F F') {Q : VK} {d : D} {h : AH} (q : LQ K F Q d h) : LQ K F' Q d h := fun G H v a b c => q G H v (e.trans a) b c
theorem LB.ext (e : Ext F F') {Q : Bool → Hp → Prop} {d : Bool} {h : AH} (q : LB K F Q d h) : LB K F' Q d h := fun G H a b => q G H (e.trans a) b
theorem LA.ext (e : Ext F F') {Q : List V → Hp → Prop} {d : List D} {h : AH} (q : LA K F Q d h) : LA K F' Q d h := fun G H v a b c => q G H v (e.trans a) b c
theorem LS.ext (e : Ext F F') {Q : St → Hp → Prop} {d : EnvD} {h : AH} (q : LS K F Q d h) : LS K F' Q d h := fun G H v a b c => q G H v (e.trans a) b c
theorem LX.ext (e : Ext F F') {E : XK} {d : DX} {h : AH} (q : LX K F E d h) : LX K F' E d h := fun G H v w a b c => q G H v w (e.trans a) b c
end
def tE (K : PySem.W.Frag) (E : XK) (w : WE) : TE := fun σ H Q => ∃ F ρ h, Sim K F h H ∧ EnvR K F ρ σ ∧ w ρ h (LQ K F Q) (LX K F E)
def tT (K : PySem.W.Frag) (E : XK) (w : WT) : TT := fun σ H Q => ∃ F ρ h, Sim K F h H ∧ EnvR K F ρ σ ∧ w ρ h (LB K F Q) (LX K F E)
def tA (K : PySem.W.Frag) (E : XK) (w : WA) : TA := fun σ H Q => ∃ F ρ h, Sim K F h H ∧ EnvR K F ρ σ ∧ w ρ h (LA K F Q) (LX K F E)
def tS (K : PySem.W.Frag) (E : XK) (w : WS) : TS := fun D σ H => ∃ F ρ h, Sim K F h H ∧ EnvR K F ρ σ ∧ w (LD K F D E) ρ h
structure EndsD.Le (D D' : EndsD) : Prop where
  nx : ∀ ρ h, D.nx ρ h → D'.nx ρ h
  rt : ∀ d h, D.rt d h → D'.rt d h
  bk : ∀ ρ h, D.bk ρ h → D'.bk ρ h
  ct : ∀ ρ h, D.ct ρ h → D'.ct ρ h
  ex : ∀ x h, D.ex x h → D'.ex x h
theorem LD.ext {K : PySem.W.Frag} {F F' : Hp} (e : Ext F F') {D : Ends} {E : XK} : (LD K F D E).Le (LD K F' D E) :=
  ⟨fun _ _ q => LS.ext e q, fun _ _ q => LQ.ext e q, fun _ _ q => LS.ext e q, fun _ _ q => LS.ext e q, fun _ _ q => LX.ext e q⟩
theorem EndsD.Le.refl (D : EndsD) : D.Le D := ⟨fun _ _ q => q, fun _ _ q => q, fun _ _ q => q, fun _ _ q => q, fun _ _ q => q⟩
/-- monotone -/
def MoE (w : WE) : Prop := ∀ ρ h Q Q' X X', (∀ d h, Q d h → Q' d h) → (∀ x h, X x h → X' x h) → w ρ h Q X → w ρ h Q' X'
def MoT (w : WT) : Prop := ∀ ρ h Q Q' X X', (∀ d h, Q d h → Q' d h) → (∀ x h, X x h → X' x h) → w ρ h Q X → w ρ h Q' X'
def MoA (w : WA) : Prop := ∀ ρ h Q Q' X X', (∀ d h, Q d h → Q' d h) → (∀ x h, X x h → X' x h) → w ρ h Q X → w ρ h Q' X'
def MoS (w : WS) : Prop := ∀ D D' ρ h, D.Le D' → w D ρ h → w D' ρ h
/-! ### the judgements -/
structure AE (X : Cx) (E : XK) (e : Expr) (w : WE) : Prop where
  run : PE X e (tE X.K E w)
  mo : MoE w
structure AT (X : Cx) (E : XK) (e : Expr) (w : WT) : Prop where
  run : PT X e (tT X.K E w)
  mo : MoT w
structure AW (X : Cx) (E : XK) (e : Expr) (w : WT) : Prop where
  run : PW X e (tT X.K E w)
  mo : MoT w
structure AA (X : Cx) (E : XK) (es : List Expr) (w : WA) : Prop where
  run : PA X es (tA X.K E w)
  mo : MoA w
structure AS (X : Cx) (E : XK) (st : Stmt) (w : WS) : Prop where
  run : PS X st (tS X.K E w)
  mo : MoS w
structure ASs (X : Cx) (E : XK) (sts : List Stmt) (w : WS) : Prop where
  run : PSs X sts (tS X.K E w)
  mo : MoS w
theorem PE.imp {X : Cx} {e : Expr} {t t' : TE} (p : PE X e t) (h : ∀ σ H Q, t' σ H Q → t σ H Q) : PE X e t' := ⟨fun pins s σ H Q I q => p.run pins s σ H Q I (h _ _ _ q)⟩
theorem PT.imp {X : Cx} {e : Expr} {t t' : TT} (p : PT X e t) (h : ∀ σ H Q, t' σ H Q → t σ H Q) : PT X e t' := ⟨fun pins s σ H Q I q => p.run pins s σ H Q I (h _ _ _ q)⟩
theorem PW.imp {X : Cx} {e : Expr} {t t' : TT} (p : PW X e t) (h : ∀ σ H Q, t' σ H Q → t σ H Q) : PW X e t' := ⟨fun wh pins s σ H Q I q => p.run wh pins s σ H Q I (h _ _ _ q)⟩
theorem PA.imp {X : Cx} {e : List Expr} {t t' : TA} (p : PA X e t) (h : ∀ σ H Q, t' σ H Q → t σ H Q) : PA X e t' := ⟨fun pos pins s σ H Q I q => p.run pos pins s σ H Q I (h _ _ _ q)⟩
theorem PS.imp {X : Cx} {e : Stmt} {t t' : TS} (p : PS X e t) (h : ∀ D σ H, t' D σ H → t D σ H) : PS X e t' := ⟨fun pins s σ H Q I q => p.run pins s σ H Q I (h _ _ _ q)⟩
theorem PSs.imp {X : Cx} {e : List Stmt} {t t' : TS} (p : PSs X e t) (h : ∀ D σ H, t' D σ H → t D σ H) : PSs X e t' := ⟨fun pins s σ H Q I q => p.run pins s σ H Q I (h _ _ _ q)⟩
end DL
namespace DL
open PySem PySem.Spec L2
/-! ### a def's promise over data -/
abbrev FSpec := List D → AH → KD → KX → Prop
def MoF (S : FSpec) : Prop := ∀ ds h Q Q' X X', (∀ d h, Q d h → Q' d h) → (∀ x h, X x h → X' x h) → S ds h Q X → S ds h Q' X'
def spD (K : PySem.W.Frag) (S : FSpec) : Sp := fun vs H Q E => ∃ F ds h, Sim K F h H ∧ Reps K F ds vs ∧ S ds h (LQ K F Q) (LX K F E)
/-- what is asked around a piece of code -/
structure Cg (gz : Bool) (X : Cx) (E : XK) (k : Nat) : Prop where
  room : Room k X.A
  gd : gz = true → X.A.guards = some []
  calm : X.calm = true
  nd : X.N.Nodup
  ps : Passes (L2.CX X.prog X.w) X E
  po : PassesOwn (model X.prog X.w) X.A X.env X.xe
theorem Cg.mono {gz : Bool} {X : Cx} {E : XK} {j k : Nat} (c : Cg gz X E k) (h : j ≤ k) : Cg gz X E j := ⟨c.room.mono h, c.gd, c.calm, c.nd, c.ps, c.po⟩
/-- a def at f keeps its promise: ahead of it no guard runs -/
structure FnG (gz : Bool) (P : Program) (w : World) (K : PySem.W.Frag) (mg : Str → Option Value) (base : Heap) (k : Nat) (f : Addr) (fd : FuncData) (ps : List Str) (S : FSpec) : Prop where
  len : ∀ ds h Q X, S ds h Q X → ds.length = ps.length
  mo : MoF S
  run : ∀ {A : Around} {outer : List Env} {s : Shared} {H : Hp} {args : Args} {us : List Value} {vs : List V} {Q : VK} {E : XK},
    Room k A → (gz = true → A.guards = some []) → Env0 P w K mg base A outer s H → BindsTo s fd args (ps.zip us) → Vals vs us → spD K S vs H Q E →
    codeAny (model P w) A (.call (.ref f) args) (CR (L2.CX P w) outer P w H s Q E) s
theorem FnG.mono {gz : Bool} {P : Program} {w : World} {K : PySem.W.Frag} {mg : Str → Option Value} {base : Heap} {j k : Nat} {f : Addr} {fd : FuncData} {ps : List Str} {S : FSpec}
    (G : FnG gz P w K mg base j f fd ps S) (h : j ≤ k) : FnG gz P w K mg base k f fd ps S :=
  ⟨G.len, G.mo, fun r g e b v q => G.run (r.mono h) g e b v q⟩
theorem spD_len {K : PySem.W.Frag} {S : FSpec} {n : Nat} (l : ∀ ds h Q X, S ds h Q X → ds.length = n) {vs : List V} {H : Hp} {Q : VK} {E : XK} (h : spD K S vs H Q E) : vs.length = n := by
  obtain ⟨F, ds, g, _, r, q⟩ := h
  rw [← r.length]; exact l _ _ _ _ q
/-! ### from a body to the promise -/
/-- what may be told of a result: parts are dropped, a list that stands alone is frozen -/
inductive Fz : D → AH → D → AH → Prop where
  | sub {d : D} {h g : AH} : Sub g h → Fz d h d g
  | lst {a : Addr} {xs : List D} {h g : AH} : h a = some (.lst xs) → g a = none → Sub g h → Fz (.ref a) h (.lst xs) g
  | dK {a : Addr} {xs : List (Key × D)} {h g : AH} : h a = some (.dK xs) → g a = none → Sub g h → Fz (.ref a) h (.dK xs) g
  | dT {a : Addr} {xs : List (List Key × D)} {h g : AH} : h a = some (.dT xs) → g a = none → Sub g h → Fz (.ref a) h (.dT xs) g
  | tup1 {a : Addr} {xs ys : List D} {h g : AH} : h a = some (.lst xs) → g a = none → Sub g h → Fz (.tup (.ref a :: ys)) h (.tup (.lst xs :: ys)) g
  | sem {d d' : D} {h g : AH} : (∀ (K : PySem.W.Frag) (F H : Hp) (v : V), Sim K F h H → Rep K F d v → ∃ F', Ext F F' ∧ Sim K F' g H ∧ Rep K F' d' v) → Fz d h d' g
def fin (Q : KD) : KD := fun d h => ∃ d' g, Fz d h d' g ∧ Q d' g
theorem fin_of {Q : KD} {d : D} {h : AH} (q : Q d h) : fin Q d h := ⟨d, h, .sub (.refl h), q⟩
theorem fin_sub {Q : KD} {d : D} {h g : AH} (s : Sub g h) (q : Q d g) : fin Q d h := ⟨d, g, .sub s, q⟩
/-- a list among the changing ones is made one that does not change -/
theorem Sim.frz {K : PySem.W.Frag} {F : Hp} {h g : AH} {H : Hp} {a : Addr} {o : AO} {u : HO} (S : Sim K F h H) (e : h a = some o) (eu : H a = some u) (n : g a = none) (s : Sub g h) : Ext F (upd F a u) ∧ Sim K (upd F a u) g H := by
  obtain ⟨f, _⟩ := S.ob _ _ e
  refine ⟨ext_upd f, fun b v q => ?_, fun b v q => ?_⟩
  · by_cases c : b = a
    · subst c; rw [upd_same] at q; cases q; exact eu
    · rw [upd_ne c] at q; exact S.fz _ _ q
  · have c : b ≠ a := by rintro rfl; rw [n] at q; cases q
    obtain ⟨f1, w, hw, r⟩ := S.ob _ _ (s _ _ q)
    exact ⟨by rw [upd_ne c]; exact f1, w, hw, r.ext (ext_upd f)⟩
theorem LQ.fin {K : PySem.W.Frag} {F : Hp} {Q : VK} {d : D} {h : AH} (q : fin (LQ K F Q) d h) : LQ K F Q d h := by
  intro F' H' v e S r
  obtain ⟨d', g, z, q⟩ := q
  cases z with
  | sub s => exact q F' H' v e (S.sub s) r
  | @lst a xs _ _ ha hg s =>
    cases r
    obtain ⟨f, u, hu, vs, rfl, rs⟩ := S.ob _ _ ha
    obtain ⟨e2, S2⟩ := S.frz ha hu hg s
    exact q _ _ _ (e.trans e2) S2 (.lst upd_same (rs.ext e2))
  | @dK a xs _ _ ha hg s =>
    cases r
    obtain ⟨f, u, hu, vs, rfl, rs⟩ := S.ob _ _ ha
    obtain ⟨e2, S2⟩ := S.frz ha hu hg s
    exact q _ _ _ (e.trans e2) S2 (.dK upd_same (rs.ext e2))
  | @dT a xs _ _ ha hg s =>
    cases r
    obtain ⟨f, u, hu, vs, rfl, rs⟩ := S.ob _ _ ha
    obtain ⟨e2, S2⟩ := S.frz ha hu hg s
    exact q _ _ _ (e.trans e2) S2 (.dT upd_same (rs.ext e2))
  | @tup1 a xs ys _ _ ha hg s =>
    cases r with
    | tup hq rr =>
      cases rr with
      | cons r1 rt =>
        cases r1
        obtain ⟨f, u, hu, vs, rfl, rs⟩ := S.ob _ _ ha
        obtain ⟨e2, S2⟩ := S.frz ha hu hg s
        exact q _ _ _ (e.trans e2) S2 (.tup (e2.sqt hq) (.cons (.lst upd_same (rs.ext e2)) (rt.ext e2)))
  | sem hh =>
    obtain ⟨F2, e2, S2, r2⟩ := hh _ _ _ _ S r
    exact q _ _ _ (e.trans e2) S2 r2
def startD (n : Nat) (ds : List D) : EnvD := ds.map some ++ List.replicate (n - ds.length) none
def endsD (Q : KD) (X : KX) : EndsD := { nx := fun _ h => fin Q .non h, rt := fin Q, ex := X }
theorem start_env {K : PySem.W.Frag} {F : Hp} {N : List Str} {ds : List D} {vs : List V} (r : Reps K F ds vs) : EnvR K F (startD N.length ds) (L2.start N vs) := by
  have l := r.length
  refine ⟨by simp [startD, L2.start, l], fun i d e => ?_⟩
  unfold startD at e
  by_cases c : i < ds.length
  · rw [List.getElem?_append_left (by simpa using c), List.getElem?_map] at e
    cases q : ds[i]? with
    | none => rw [q] at e; cases e
    | some x =>
      rw [q] at e; cases e
      obtain ⟨v, h1, h2⟩ := r.get q
      refine ⟨v, ?_, h2⟩
      unfold L2.start
      rw [List.getElem?_append_left (by rw [List.length_map, ← l]; exact c), List.getElem?_map, h1]
      rfl
  · rw [List.getElem?_append_right (by simpa using c), List.getElem?_replicate] at e
    split at e <;> cases e
section
variable {P : Program} {w : World} {K : PySem.W.Frag} {mg : Str → Option Value} {base : Heap}
/-- THE RULE for a def: its body as a term of rules, and what it computes over data -/
theorem fng_of {gz : Bool} {x qual : Str} {st : Stmt} {f : Addr} {fd : FuncData} {N ps : List Str} {k : Nat} {S : FSpec} {W : WS}
    (F : Fun K x qual st f fd) (sc : FnScope N ps (defScope st)) (len : ∀ ds h Q X, S ds h Q X → ds.length = ps.length) (mo : MoF S)
    (body : ∀ (cdv : Value) (A : Around) (outer : List PySem.Env) (s : Shared) (H : Hp) (E : XK), Cg gz (cxOf (L2.CX P w) P w K mg base N qual (defScope st) f cdv A outer s H E) E k →
      ASs (cxOf (L2.CX P w) P w K mg base N qual (defScope st) f cdv A outer s H E) E (defBody st) W)
    (pure : ∀ ds h Q X, S ds h Q X → W (endsD Q X) (startD N.length ds) h) : FnG gz P w K mg base (k + 1) f fd ps S := by
  refine ⟨len, mo, fun {A outer s H args us vs Q E} hr hg e0 hb hv hs => ?_⟩
  obtain ⟨oc, od, kV, doc, pm, an, cdv, ct, osl, rfl, lk, hcd⟩ := F.ex
  have lenv := spD_len len hs
  have inK : K.In s.heap := e0.mod.kin.keeps fun b o e =>
    (e0.bs b o e).1
  have nol : s.heap.NoLimit := e0.mod.nolimit.keeps fun b o e =>
    (e0.bs b o e).1
  have kinds : ∀ y ∈ ps.zip us, (defScope st).names.lookup y.1 = some .local ∨
      ((defScope st).names.lookup y.1 = some .cell ∧ ((cellsFrom (s.heap.objs.size + 1) (defScope st).names []).lookup y.1).isSome = true) := by
    rintro ⟨n, v⟩ hy
    cases sc.par n (List.of_mem_zip hy).1 with
    | inl q => exact .inl q
    | inr q => exact .inr ⟨q, PySem.W.cellsFrom_some _ _ _ (.inl q)⟩
  refine codeAny_call_function hr.depth (inK _ _ lk) rfl
    sc.co sc.gen rfl (PySem.W.codeRec_of inK hcd) (hb _ _ _ _ ?_)
  refine wpAny_newFunctionEnv_cells sc.kind kinds
    fun env he s1 ic => ?_
  subst he
  refine ⟨nol.keeps ic.toInCall.keep,
    codeAny_func ?_⟩
  have I := inv_start (CX := L2.CX P w) (P := P) (w := w) (mg := mg) (base := base) (E := E) sc hr.hd e0 lenv hv ic
  have c : Cg gz (cxOf (L2.CX P w) P w K mg base N qual (defScope st) f cdv A outer s H E) E k :=
    ⟨hr.deeper _, hg, rfl, sc.nd, passes_call (takes_of rfl rfl rfl rfl) fun _ _ _ _ z => z, passes_of rfl⟩
  obtain ⟨F0, ds, g, S0, r0, q0⟩ := hs
  have B := body cdv A outer s H E c
  have go : tS K E W { nx := fun _ H' => Q .non H', rt := Q } (L2.start N vs) H := by
    refine ⟨F0, _, g, S0, start_env r0, B.mo (endsD (LQ K F0 Q) (LX K F0 E)) _ _ _ ⟨fun ρ h z => ?_, fun d h z => LQ.fin z, fun _ _ z => False.elim z, fun _ _ z => False.elim z, fun _ _ z => z⟩ (pure ds g _ _ q0)⟩
    exact fun F' H' σ' e S' _ => LQ.fin z F' H' .non e S' .non
  refine wpAny_mono (B.run.run [] s1 _ H _ I go) (fun fl s' hq => ?_) fun e s' hq => hq
  cases fl with
  | ret u =>
    obtain ⟨v, σ', H', J, rv, q⟩ := hq
    exact ⟨v, H', J.os, J.bare, J.base, J.hok, rv, q⟩
  | next =>
    obtain ⟨σ', H', J, q⟩ := hq
    exact ⟨.non, H', J.os, J.bare, J.base, J.hok, rfl, q⟩
  | brk => obtain ⟨_, _, _, q⟩ := hq; exact q.elim
  | cont => obtain ⟨_, _, _, q⟩ := hq; exact q.elim
end
/-! ### calls -/
/-- how n positional values and the keywords' values (names ks) come to the parameters -/
structure Bnd (K : PySem.W.Frag) (fd : FuncData) (ps : List Str) (n : Nat) (ks : List Str) (g : List D → List D → List D) : Prop where
  to : ∀ (s : Shared) (F : Hp) (ds zs : List D) (vs ys : List V) (us ws : List Value), K.In s.heap → ds.length = n → zs.length = ks.length →
    Reps K F ds vs → Vals vs us → Reps K F zs ys → Vals ys ws → ∃ xs ts, Reps K F (g ds zs) xs ∧ Vals xs ts ∧ BindsTo s fd ⟨us, ks.zip ws⟩ (ps.zip ts)
theorem Bnd.plain {K : PySem.W.Frag} {fd : FuncData} {ps : List Str} (h : ∀ us : List Value, us.length = ps.length → bindArgs fd ⟨us, []⟩ = pure (ps.zip us)) : Bnd K fd ps ps.length [] (fun ds _ => ds) := by
  refine ⟨fun s F ds zs vs ys us ws X l1 l2 r1 r2 r3 r4 => ⟨vs, us, r1, r2, ?_⟩⟩
  have l : us.length = ps.length := by rw [← r2.length, ← r1.length]; exact l1
  cases zs with
  | cons _ _ => cases l2
  | nil => cases r3; cases r4; exact .of_eq (h us l)
/-- a def that a name of the module holds -/
structure Cal (gz : Bool) (P : Program) (w : World) (K : PySem.W.Frag) (mg : Str → Option Value) (base : Heap) (x : Str) (k n : Nat) (ks : List Str) (g : List D → List D → List D) (S : FSpec) : Prop where
  ex : ∃ f fd ps, mg x = some (.ref f) ∧ PySem.W.keepIn K (.ref f) = true ∧ FnG gz P w K mg base k f fd ps S ∧ Bnd K fd ps n ks g
section
variable {X : Cx} {E : XK} {k n : Nat} {ks : List Str} {g : List D → List D → List D} {S : FSpec} {x : Str} {p pos : Pos} {e : Expr} {es : List Expr} {wa wk : WA}
theorem run_g {gz gy : Bool} {pins : List (Addr × Obj)} {σ : L2.St} {H : Hp} {s : Shared} {Q : VK} {f : Addr} {fd : FuncData} {ps : List Str} {args : Args} {us : List Value} {vs : List V} (c : Cg gz X E k)
    (G : FnG gy X.prog X.w X.K X.mg X.base k f fd ps S) (hz : gy = true → gz = true) (I : Inv X pins σ H s) (hb : BindsTo s fd args (ps.zip us)) (r : Vals vs us) (h : spD X.K S vs H Q E) :
    codeAny (model X.prog X.w) X.A (.call (.ref f) args) (fun r s' => match r with | .ok (.ret u) => EP X pins σ Q u s' | .ok _ => False | .error e => X.xe e s') s := by
  refine codeAny_mono (G.run c.room (fun z => c.gd (hz z)) I.env0 hb r h) fun r s' hq => ?_
  match r, hq with
  | .error e, hq => exact c.ps pins σ H s e s' I hq
  | .ok (.ret u), hq => exact I.after hq
  | .ok .next, hq => exact hq.elim
  | .ok .brk, hq => exact hq.elim
  | .ok .cont, hq => exact hq.elim
end
/-- f(..): n positional values, keywords -/
def wCall (S : FSpec) (n m : Nat) (g : List D → List D → List D) (wa wk : WA) : WE := fun ρ h Q X => wa ρ h (fun ds h1 => wk ρ h1 (fun zs h2 => ds.length = n ∧ zs.length = m ∧ S (g ds zs) h2 Q X) X) X
end DL
namespace DL
open PySem PySem.Spec L2
/-! ### data as the library's own data -/
mutual
def pd : D → PyData
  | .non => .none
  | .bl b => .bool b
  | .int i => .int i
  | .str s => .str s
  | .tup xs => .tuple (pds xs)
  | .tpl xs => .tuple (pds xs)
  | .lst xs => .list (pds xs)
  | .ref _ => .none
  | .ty _ => .none
  | .lk _ => .none
  | .ob _ _ => .none
  | .xob _ _ => .none
  | .lam _ _ _ _ _ => .none
  | .dK _ => .none
  | .dT _ => .none
def pds : List D → List PyData
  | [] => []
  | x :: xs => pd x :: pds xs
end
mutual
def dat : D → Bool
  | .non => true
  | .bl _ => true
  | .int _ => true
  | .str _ => true
  | .tup xs => dats xs
  | .tpl xs => dats xs
  | .lst xs => dats xs
  | .ref _ => false
  | .ty _ => false
  | .lk _ => false
  | .ob _ _ => false
  | .xob _ _ => false
  | .lam _ _ _ _ _ => false
  | .dK _ => false
  | .dT _ => false
def dats : List D → Bool
  | [] => true
  | x :: xs => dat x && dats xs
end
/-- a list or dict that may change, as it stands now -/
def cur (h : AH) : D → D
  | .ref a => match h a with
    | some (.lst xs) => .lst xs
    | some (.dK kvs) => .dK kvs
    | some (.dT kvs) => .dT kvs
    | _ => .ref a
  | d => d
section
variable {K : PySem.W.Frag} {F H : Hp}
theorem sqt_of {a : Addr} {vs : List V} (e : ∀ a o, F a = some o → H a = some o) (h : SqT K F a vs) : SqT K H a vs := Ext.sqt e h
mutual
theorem Rep.dp (e : ∀ a o, F a = some o → H a = some o) : ∀ {d : D} {v : V}, Rep K F d v → dat d = true → Dp K H v (pd d)
  | _, _, .non, _ => by rw [pd]; exact .non
  | _, _, .bl b, _ => by rw [pd]; exact .bl b
  | _, _, .int i, _ => by rw [pd]; exact .int i
  | _, _, .str s, _ => by rw [pd]; exact .str s
  | _, _, .ref a, h => by rw [dat] at h; cases h
  | _, _, .ty n, h => by rw [dat] at h; cases h
  | _, _, .lk _ _, h => by rw [dat] at h; cases h
  | _, _, .ob _ _, h => by rw [dat] at h; cases h
  | _, _, .dK _ _, h => by rw [dat] at h; cases h
  | _, _, .dT _ _, h => by rw [dat] at h; cases h
  | _, _, .tup h r, q => by rw [dat] at q; rw [pd]; exact .tup (sqt_of e h) (Reps.dp e r q)
  | _, _, .tpl h hd r, q => by rw [dat] at q; rw [pd]; exact .tup (sqt_of e (.inl (.inr ⟨_, h⟩))) (Reps.dp e r q)
  | _, _, .lst h r, q => by rw [dat] at q; rw [pd]; exact .lst (.of (e _ _ h)) (Reps.dp e r q)
theorem Reps.dp (e : ∀ a o, F a = some o → H a = some o) : ∀ {ds : List D} {vs : List V}, Reps K F ds vs → dats ds = true → DpAll K H vs (pds ds)
  | _, _, .nil, _ => by rw [pds]; exact .nil
  | _, _, .cons h t, q => by
    rw [dats, Bool.and_eq_true] at q
    rw [pds]; exact .cons (Rep.dp e h q.1) (Reps.dp e t q.2)
end
theorem Sim.curDp {h : AH} (S : Sim K F h H) {d : D} {v : V} (r : Rep K F d v) (q : dat (cur h d) = true) : Dp K H v (pd (cur h d)) := by
  have base : ∀ {d : D} {v : V}, Rep K F d v → dat d = true → Dp K H v (pd d) := fun r q => r.dp S.fz q
  cases r with
  | ref a =>
    cases e : h a with
    | none => simp [cur, e, dat] at q
    | some o =>
      cases o with
      | lst xs =>
        obtain ⟨_, u, hu, vs, rfl, rs⟩ := S.ob _ _ e
        simp only [cur, e, dat] at q
        simp only [cur, e, pd]
        exact .lst (.of hu) (rs.dp S.fz q)
      | dK _ => simp [cur, e, dat] at q
      | dT _ => simp [cur, e, dat] at q
      | ins _ _ => simp [cur, e, dat] at q
      | lck _ => simp [cur, e, dat] at q
      | lckK _ _ => simp [cur, e, dat] at q
      | tab _ => simp [cur, e, dat] at q
  | non => exact base .non q
  | bl b => exact base (.bl b) q
  | int i => exact base (.int i) q
  | str s => exact base (.str s) q
  | ty n => exact base (.ty n) q
  | tup h r => exact base (.tup h r) q
  | tpl h hd r => exact base (.tpl h hd r) q
  | lst h r => exact base (.lst h r) q
  | dK h r => exact base (.dK h r) q
  | dT h r => exact base (.dT h r) q
  | lk h r => exact base (.lk h r) q
  | ob h r => exact base (.ob h r) q
  | xob0 h => exact base (.xob0 h) q
  | lam h r => exact base (.lam h r) q
  | xob h hd r => exact base (.xob h hd r) q
end
/-! ### lists -/
def lstOf (h : AH) : D → Option (List D)
  | .lst xs => some xs
  | .ref a => match h a with
    | some (.lst xs) => some xs
    | _ => none
  | _ => none
def seqOf (h : AH) : D → Option (List D)
  | .tup xs => some xs
  | .tpl xs => some xs
  | d => lstOf h d
def newL (m : Bool) (xs : List D) (h : AH) (Q : KD) : Prop := if m = true then ∀ p, h p = none → Q (.ref p) (up h p (.lst xs)) else Q (.lst xs) h
section
variable {K : PySem.W.Frag} {F : Hp} {h : AH} {H : Hp} {d : D} {v : V} {xs : List D}
theorem Sim.lstOf (S : Sim K F h H) (r : Rep K F d v) (e : lstOf h d = some xs) : ∃ a vs, v = .ref a ∧ H a = some (.lst vs) ∧ Reps K F xs vs := by
  cases r with
  | ref a =>
    cases q : h a with
    | none => simp [DL.lstOf, q] at e
    | some o =>
      cases o with
      | lst ys =>
        simp only [DL.lstOf, q, Option.some.injEq] at e
        subst e
        obtain ⟨_, u, hu, vs, rfl, rs⟩ := S.ob _ _ q
        exact ⟨a, vs, rfl, hu, rs⟩
      | dK _ => simp [DL.lstOf, q] at e
      | dT _ => simp [DL.lstOf, q] at e
      | ins _ _ => simp [DL.lstOf, q] at e
      | lck _ => simp [DL.lstOf, q] at e
      | lckK _ _ => simp [DL.lstOf, q] at e
      | tab _ => simp [DL.lstOf, q] at e
  | @lst a ys vs hf rs =>
    cases e
    exact ⟨a, vs, rfl, S.fz _ _ hf, rs⟩
  | non => cases e
  | bl _ => cases e
  | int _ => cases e
  | str _ => cases e
  | ty _ => cases e
  | lk _ _ => cases e
  | ob _ _ => cases e
  | xob0 _ => cases e
  | lam _ _ => cases e
  | xob _ _ _ => cases e
  | tup _ _ => cases e
  | tpl _ _ _ => cases e
  | dK _ _ => cases e
  | dT _ _ => cases e
theorem Sim.seqOf (S : Sim K F h H) (r : Rep K F d v) (e : seqOf h d = some xs) : ∃ a vs, v = .ref a ∧ (SqL K H a vs ∨ SqT K H a vs) ∧ Reps K F xs vs := by
  by_cases c : ∃ ys, d = .tup ys
  · obtain ⟨ys, rfl⟩ := c
    cases r with
    | @tup a _ vs hf rs =>
      cases e
      exact ⟨a, vs, rfl, .inr (sqt_of S.fz hf), rs⟩
  by_cases c2 : ∃ ys, d = .tpl ys
  · obtain ⟨ys, rfl⟩ := c2
    cases r with
    | @tpl a _ _ vs hf _ rs =>
      cases e
      exact ⟨a, vs, rfl, .inr (sqt_of S.fz (.inl (.inr ⟨_, hf⟩))), rs⟩
  · have e' : DL.lstOf h d = some xs := by
      cases d <;> first | exact e | exact absurd ⟨_, rfl⟩ c | exact absurd ⟨_, rfl⟩ c2
    obtain ⟨a, vs, r1, r2, r3⟩ := S.lstOf r e'
    exact ⟨a, vs, r1, .inl (.of r2), r3⟩
theorem Sim.newL {m : Bool} {vs : List V} {Q : VK} (S : Sim K F h H) (r : Reps K F xs vs) (q : newL m xs h (LQ K F Q)) : ∀ p, H p = none → Q (.ref p) (upd H p (.lst vs)) := by
  intro p hp
  obtain ⟨f, g⟩ := S.free hp
  unfold DL.newL at q
  split at q
  · exact q p g F _ _ (.refl F) (S.newM hp ⟨vs, rfl, r⟩) (.ref p)
  · exact q _ _ _ (ext_upd f) (S.newF hp _) (.lst upd_same (r.ext (ext_upd f)))
theorem newL_mo {m : Bool} {Q Q' : KD} (hq : ∀ d h, Q d h → Q' d h) (q : newL m xs h Q) : newL m xs h Q' := by
  unfold newL at *
  split at q
  · rename_i c; rw [if_pos c]; exact fun p e => hq _ _ (q p e)
  · rename_i c; rw [if_neg c]; exact hq _ _ q
@[simp] theorem newL_t {Q : KD} : newL true xs h Q = ∀ p, h p = none → Q (.ref p) (up h p (.lst xs)) := by simp [newL]
@[simp] theorem newL_f {Q : KD} : newL false xs h Q = Q (.lst xs) h := by simp [newL]
/-- a new tuple -/
theorem Sim.newT {vs : List V} {Q : VK} (S : Sim K F h H) (r : Reps K F xs vs) (q : LQ K F Q (.tup xs) h) : ∀ p, H p = none → Q (.ref p) (upd H p (.tup vs)) := by
  intro p hp
  obtain ⟨f, g⟩ := S.free hp
  exact q _ _ _ (ext_upd f) (S.newF hp _) (.tup (.of upd_same) (r.ext (ext_upd f)))
theorem LQ.at {Q : VK} (q : LQ K F Q d h) (S : Sim K F h H) (r : Rep K F d v) : Q v H := q F H v (.refl F) S r
end
/-! ### operators over data -/
structure OpD (K : PySem.W.Frag) (r : V → V → Hp → VK → Prop) (f : D → D → AH → KD → Prop) : Prop where
  to : ∀ {F h H x y vx vy} {Q : VK}, Sim K F h H → Rep K F x vx → Rep K F y vy → f x y h (LQ K F Q) → r vx vy H Q
  mo : ∀ {x y h} {Q Q' : KD}, (∀ d h, Q d h → Q' d h) → f x y h Q → f x y h Q'
def MulOk (i j : Int) : Prop := (-(2 ^ 64) < i ∧ i < 2 ^ 64) ∨ (-(2 ^ 64) < j ∧ j < 2 ^ 64) ∨ i.natAbs.log2 + j.natAbs.log2 < 1000000
def DivOk (j : Int) : Prop := 0 < j ∧ (j < 1073741824 ∨ j.natAbs.log2 < 9000)
def PowOk (i j : Int) : Prop := 0 ≤ j ∧ j ≤ 1000000 ∧ i.natAbs < 2 ^ 64
def dAdd (m : Bool) (x y : D) (h : AH) (Q : KD) : Prop := match x, y with
  | .int i, .int j => Q (.int (i + j)) h
  | .str a, .str b => a.length + b.length ≤ sizeLine ∧ Q (.str (a ++ b)) h
  | .tup xs, .tup ys => xs.length + ys.length ≤ sizeLine ∧ Q (.tup (xs ++ ys)) h
  | x, y => ∃ xs ys, lstOf h x = some xs ∧ lstOf h y = some ys ∧ xs.length + ys.length ≤ sizeLine ∧ newL m (xs ++ ys) h Q
def dSub (x y : D) (h : AH) (Q : KD) : Prop := match x, y with
  | .int i, .int j => Q (.int (i - j)) h
  | _, _ => False
def dMul (m : Bool) (x y : D) (h : AH) (Q : KD) : Prop := match x, y with
  | .int i, .int j => MulOk i j ∧ Q (.int (i * j)) h
  | x, .int k => ∃ xs, lstOf h x = some xs ∧ k < 2 ^ 62 ∧ -(2 ^ 62) < k ∧ xs.length * k.toNat ≤ sizeLine ∧ newL m (List.replicate k.toNat xs).flatten h Q
  | _, _ => False
def dDiv (x y : D) (h : AH) (Q : KD) : Prop := match x, y with
  | .int i, .int j => DivOk j ∧ Q (.int (i / j)) h
  | _, _ => False
def dMod (x y : D) (h : AH) (Q : KD) : Prop := match x, y with
  | .int i, .int j => 0 < j ∧ Q (.int (i % j)) h
  | _, _ => False
def dPow (x y : D) (h : AH) (Q : KD) : Prop := match x, y with
  | .int i, .int j => PowOk i j ∧ Q (.int (i ^ j.toNat)) h
  | _, _ => False
def dCmpI (f : Int → Int → Bool) (x y : D) (h : AH) (Q : KD) : Prop := match x, y with
  | .int i, .int j => Q (.bl (f i j)) h
  | _, _ => False
/-- == of data -/
def dEq (f : Bool → Bool) (x y : D) (h : AH) (Q : KD) : Prop := match x, y with
  | .int i, .int j => Q (.bl (f (decide (i = j)))) h
  | .str i, .str j => Q (.bl (f (decide (i = j)))) h
  | .bl i, .bl j => Q (.bl (f (decide (i = j)))) h
  | x, y => dat (cur h x) = true ∧ dat (cur h y) = true ∧ SeqAt.shaped (pd (cur h x)) = true ∧ SeqAt.shaped (pd (cur h y)) = true ∧ Q (.bl (f (PyData.eqv (pd (cur h x)) (pd (cur h y))))) h
def dIsN (f : Bool → Bool) (x y : D) (h : AH) (Q : KD) : Prop := match x, y with
  | .non, .non => Q (.bl (f true)) h
  | .bl i, .bl j => Q (.bl (f (decide (i = j)))) h
  | _, .non => Q (.bl (f false)) h
  | _, _ => False
section
variable {X : Cx}
/-- the rule of values that a D-operator stands on -/
def rMul (K : PySem.W.Frag) : R2 := fun x y H Q => rI CMul (fun i j => .int (i * j)) x y H Q ∨ rI CMulW (fun i j => .int (i * j)) x y H Q ∨ rRep x y H Q
theorem op_mulD : OpR X (binaryOp .Mult) (rMul X.K) := OpR.or op_mul (OpR.or op_mulW op_rep)
theorem dMul_ok {K : PySem.W.Frag} {m : Bool} : OpD K (rMul K) (dMul m) where
  to := by
    intro F h H x y vx vy Q S rx ry q
    unfold dMul at q
    split at q
    · cases rx; cases ry
      obtain ⟨c, q⟩ := q
      rcases c with c | c | c
      · exact .inl ⟨_, _, rfl, rfl, .inl c, q.at S (.int _)⟩
      · exact .inl ⟨_, _, rfl, rfl, .inr c, q.at S (.int _)⟩
      · exact .inr (.inl ⟨_, _, rfl, rfl, c, q.at S (.int _)⟩)
    · obtain ⟨xs, e, c1, c2, l, q⟩ := q
      obtain ⟨a, vs, rfl, ha, rs⟩ := S.lstOf rx e
      cases ry
      refine .inr (.inr ⟨a, _, vs, rfl, rfl, ha, by omega, by omega, by rw [← rs.length]; exact l, S.newL (vs := (List.replicate _ vs).flatten) ?_ q⟩)
      generalize Int.toNat _ = n
      induction n with
      | zero => exact .nil
      | succ n ih => rw [List.replicate_succ, List.replicate_succ, List.flatten_cons, List.flatten_cons]; exact rs.append ih
    · exact q.elim
  mo := by
    intro x y h Q Q' hq q
    unfold dMul at *
    split at q
    · exact ⟨q.1, hq _ _ q.2⟩
    · obtain ⟨xs, e, c1, c2, l, q⟩ := q
      exact ⟨xs, e, c1, c2, l, newL_mo hq q⟩
    · exact q.elim
def rAddD (K : PySem.W.Frag) : R2 := fun x y H Q => rI0 (fun i j => .int (i + j)) x y H Q ∨ (∃ i j, x = .str i ∧ y = .str j ∧ i.length + j.length ≤ sizeLine ∧ Q (.str (i ++ j)) H) ∨ rCatA K x y H Q ∨ rCat x y H Q
theorem op_addD : OpR X (binaryOp .Add) (rAddD X.K) := OpR.or op_add (OpR.or op_add_str (OpR.or op_catA op_cat))
theorem reps_nil {K : PySem.W.Frag} {F : Hp} {xs : List D} {vs : List V} (r : Reps K F xs vs) : vs = [] ↔ xs = [] := by
  cases r <;> simp
theorem dAdd_ok {K : PySem.W.Frag} {m : Bool} : OpD K (rAddD K) (dAdd m) where
  to := by
    intro F h H x y vx vy Q S rx ry q
    unfold dAdd at q
    split at q
    · cases rx; cases ry
      exact .inl ⟨_, _, rfl, rfl, q.at S (.int _)⟩
    · cases rx; cases ry
      exact .inr (.inl ⟨_, _, rfl, rfl, q.1, q.2.at S (.str _)⟩)
    · cases rx with
      | @tup a xs vs ha rs =>
      cases ry with
      | @tup b ys ws hb rt =>
      obtain ⟨l, q⟩ := q
      refine .inr (.inr (.inl ⟨a, b, vs, ws, rfl, rfl, sqt_of S.fz ha, sqt_of S.fz hb, by rw [← rs.length, ← rt.length]; exact l, fun e => ?_, fun _ e => ?_, fun _ _ => S.newT (rs.append rt) q⟩))
      · rw [(reps_nil rs).mp e, List.nil_append] at q
        exact q.at S (.tup hb rt)
      · rw [(reps_nil rt).mp e, List.append_nil] at q
        exact q.at S (.tup ha rs)
    · obtain ⟨xs, ys, e1, e2, l, q⟩ := q
      obtain ⟨a, vs, rfl, ha, rs⟩ := S.lstOf rx e1
      obtain ⟨b, ws, rfl, hb, rt⟩ := S.lstOf ry e2
      exact .inr (.inr (.inr ⟨a, b, vs, ws, rfl, rfl, ha, hb, by rw [← rs.length, ← rt.length]; exact l, S.newL (rs.append rt) q⟩))
  mo := by
    intro x y h Q Q' hq q
    unfold dAdd at *
    split at q
    · exact hq _ _ q
    · exact ⟨q.1, hq _ _ q.2⟩
    · exact ⟨q.1, hq _ _ q.2⟩
    · obtain ⟨xs, ys, e1, e2, l, q⟩ := q
      exact ⟨xs, ys, e1, e2, l, newL_mo hq q⟩
theorem dSub_ok {K : PySem.W.Frag} : OpD K (rI0 fun i j => .int (i - j)) dSub where
  to := by
    intro F h H x y vx vy Q S rx ry q
    unfold dSub at q
    split at q
    · cases rx; cases ry; exact ⟨_, _, rfl, rfl, q.at S (.int _)⟩
    · exact q.elim
  mo := by
    intro x y h Q Q' hq q
    unfold dSub at *
    split at q
    · exact hq _ _ q
    · exact q.elim
def rDivD : R2 := fun x y H Q => rI CDiv (fun i j => .int (i / j)) x y H Q ∨ rI CDivW (fun i j => .int (i / j)) x y H Q
theorem op_divD : OpR X (binaryOp .FloorDiv) rDivD := OpR.or op_fdiv op_fdivW
theorem dDiv_ok {K : PySem.W.Frag} : OpD K rDivD dDiv where
  to := by
    intro F h H x y vx vy Q S rx ry q
    unfold dDiv at q
    split at q
    · cases rx; cases ry
      obtain ⟨⟨c0, c⟩, q⟩ := q
      rcases c with c | c
      · exact .inl ⟨_, _, rfl, rfl, ⟨c0, c⟩, q.at S (.int _)⟩
      · exact .inr ⟨_, _, rfl, rfl, ⟨c0, c⟩, q.at S (.int _)⟩
    · exact q.elim
  mo := by
    intro x y h Q Q' hq q
    unfold dDiv at *
    split at q
    · exact ⟨q.1, hq _ _ q.2⟩
    · exact q.elim
theorem dMod_ok {K : PySem.W.Frag} : OpD K (rI (fun _ j => 0 < j) fun i j => .int (i % j)) dMod where
  to := by
    intro F h H x y vx vy Q S rx ry q
    unfold dMod at q
    split at q
    · cases rx; cases ry; exact ⟨_, _, rfl, rfl, q.1, q.2.at S (.int _)⟩
    · exact q.elim
  mo := by
    intro x y h Q Q' hq q
    unfold dMod at *
    split at q
    · exact ⟨q.1, hq _ _ q.2⟩
    · exact q.elim
theorem dPow_ok {K : PySem.W.Frag} : OpD K (rI CPow fun i j => .int (i ^ j.toNat)) dPow where
  to := by
    intro F h H x y vx vy Q S rx ry q
    unfold dPow at q
    split at q
    · cases rx; cases ry; exact ⟨_, _, rfl, rfl, q.1, q.2.at S (.int _)⟩
    · exact q.elim
  mo := by
    intro x y h Q Q' hq q
    unfold dPow at *
    split at q
    · exact ⟨q.1, hq _ _ q.2⟩
    · exact q.elim
theorem dCmpI_ok {K : PySem.W.Frag} {f : Int → Int → Bool} : OpD K (rI0 fun i j => .bl (f i j)) (dCmpI f) where
  to := by
    intro F h H x y vx vy Q S rx ry q
    unfold dCmpI at q
    split at q
    · cases rx; cases ry; exact ⟨_, _, rfl, rfl, q.at S (.bl _)⟩
    · exact q.elim
  mo := by
    intro x y h Q Q' hq q
    unfold dCmpI at *
    split at q
    · exact hq _ _ q
    · exact q.elim
def rEqF (K : PySem.W.Frag) (f : Bool → Bool) : R2 := fun x y H Q => (scal x y = true ∧ Q (.bl (f (decide (x = y)))) H) ∨ ∃ d e, Dp K H x d ∧ Dp K H y e ∧ SeqAt.shaped d = true ∧ SeqAt.shaped e = true ∧ Q (.bl (f (PyData.eqv d e))) H
theorem op_eqF (hu : X.A.units + 64 < cLine) : OpR X (compareOp .Eq) (rEqF X.K fun b => b) := OpR.or op_eq (op_eqD hu)
theorem op_neF (hu : X.A.units + 64 < cLine) : OpR X (compareOp .NotEq) (rEqF X.K fun b => !b) := OpR.or op_ne (op_neD hu)
theorem dec_int {i j : Int} : decide (V.int i = V.int j) = decide (i = j) := by simp
theorem dec_str {i j : Str} : decide (V.str i = V.str j) = decide (i = j) := by simp
theorem dec_bl {i j : Bool} : decide (V.bl i = V.bl j) = decide (i = j) := by simp
theorem dEq_ok {K : PySem.W.Frag} {f : Bool → Bool} : OpD K (rEqF K f) (dEq f) where
  to := by
    intro F h H x y vx vy Q S rx ry q
    unfold dEq at q
    split at q
    · cases rx; cases ry; exact .inl ⟨rfl, by rw [dec_int]; exact q.at S (.bl _)⟩
    · cases rx; cases ry; exact .inl ⟨rfl, by rw [dec_str]; exact q.at S (.bl _)⟩
    · cases rx; cases ry; exact .inl ⟨rfl, by rw [dec_bl]; exact q.at S (.bl _)⟩
    · obtain ⟨c1, c2, c3, c4, q⟩ := q
      exact .inr ⟨_, _, S.curDp rx c1, S.curDp ry c2, c3, c4, q.at S (.bl _)⟩
  mo := by
    intro x y h Q Q' hq q
    unfold dEq at *
    split at q
    · exact hq _ _ q
    · exact hq _ _ q
    · exact hq _ _ q
    · obtain ⟨c1, c2, c3, c4, q⟩ := q
      exact ⟨c1, c2, c3, c4, hq _ _ q⟩
def rIsF (f : Bool → Bool) : R2 := fun x y H Q => (y = .non ∧ Q (.bl (f (decide (x = .non)))) H) ∨ ∃ a b : Bool, x = .bl a ∧ y = .bl b ∧ Q (.bl (f (decide (a = b)))) H
theorem op_isF : OpR X (compareOp .Is) (rIsF fun b => b) := OpR.or op_isN op_isBl
theorem op_notF : OpR X (compareOp .IsNot) (rIsF fun b => !b) := OpR.or op_notN op_notBl
theorem Rep.nonv {K : PySem.W.Frag} {F : Hp} {d : D} {v : V} (r : Rep K F d v) (h : d ≠ .non) : v ≠ .non := by
  cases r <;> first | exact absurd rfl h | (intro z; cases z)
theorem dIsN_ok {K : PySem.W.Frag} {f : Bool → Bool} : OpD K (rIsF f) (dIsN f) where
  to := by
    intro F h H x y vx vy Q S rx ry q
    unfold dIsN at q
    split at q
    · cases rx; cases ry; exact .inl ⟨rfl, q.at S (.bl _)⟩
    · cases rx; cases ry; exact .inr ⟨_, _, rfl, rfl, q.at S (.bl _)⟩
    · rename_i hx _
      cases ry
      have n : vx ≠ .non := rx.nonv (by intro e; subst e; simp_all)
      exact .inl ⟨rfl, by rw [decide_eq_false n]; exact q.at S (.bl _)⟩
    · exact q.elim
  mo := by
    intro x y h Q Q' hq q
    unfold dIsN at *
    split at q
    · exact hq _ _ q
    · exact hq _ _ q
    · exact hq _ _ q
    · exact q.elim
end
end DL
namespace DL
open PySem PySem.Spec L2
/-! ### expressions over data -/
def wC (d : D) : WE := fun _ h Q _ => Q d h
def wVar (i : Nat) : WE := fun ρ h Q _ => match ρ[i]? with
  | some (some d) => Q d h
  | _ => False
def wOp (f : D → D → AH → KD → Prop) (a b : WE) : WE := fun ρ h Q X => a ρ h (fun x h1 => b ρ h1 (fun y h2 => f x y h2 Q) X) X
def wNeg (a : WE) : WE := fun ρ h Q X => a ρ h (fun x h1 => match x with
  | .int i => Q (.int (-i)) h1
  | _ => False) X
def wChain (f g : D → D → AH → KD → Prop) (a b c : WE) : WE := fun ρ h Q X => a ρ h (fun x h1 => b ρ h1 (fun y h2 => f x y h2 fun z h3 => match z with
  | .bl k => if k = true then c ρ h3 (fun u h4 => g y u h4 Q) X else Q (.bl false) h3
  | _ => False) X) X
def wTest (a : WE) : WT := fun ρ h Q X => a ρ h (fun x h1 => match x with
  | .bl b => Q b h1
  | _ => False) X
def truD (h : AH) (x : D) : Option Bool := match cur h x with
  | .non => some false
  | .bl b => some b
  | .int i => some (i != 0)
  | .tup xs => some (!xs.isEmpty)
  | .tpl xs => some (!xs.isEmpty)
  | .lst xs => some (!xs.isEmpty)
  | .dK xs => some (!xs.isEmpty)
  | _ => none
def wTruth (a : WE) : WT := fun ρ h Q X => a ρ h (fun x h1 => ∃ k, truD h1 x = some k ∧ Q k h1) X
def wAnd (a b : WT) : WT := fun ρ h Q X => a ρ h (fun c h1 => if c = true then b ρ h1 Q X else Q false h1) X
def wOr (a b : WT) : WT := fun ρ h Q X => a ρ h (fun c h1 => if c = true then Q true h1 else b ρ h1 Q X) X
def wNot (a : WT) : WT := fun ρ h Q X => a ρ h (fun c h1 => Q (!c) h1) X
def wAndV (a b : WE) : WE := fun ρ h Q X => a ρ h (fun x h1 => match x with
  | .bl c => if c = true then b ρ h1 Q X else Q (.bl false) h1
  | _ => False) X
def wOrV (a b : WE) : WE := fun ρ h Q X => a ρ h (fun x h1 => match x with
  | .bl c => if c = true then Q (.bl true) h1 else b ρ h1 Q X
  | _ => False) X
def wNotV (a : WE) : WE := fun ρ h Q X => a ρ h (fun x h1 => match x with
  | .bl c => Q (.bl (!c)) h1
  | _ => False) X
def wIf (t : WT) (a b : WE) : WE := fun ρ h Q X => t ρ h (fun c h1 => if c = true then a ρ h1 Q X else b ρ h1 Q X) X
def wNil : WA := fun _ h Q _ => Q [] h
def wCons (a : WE) (r : WA) : WA := fun ρ h Q X => a ρ h (fun x h1 => r ρ h1 (fun xs h2 => Q (x :: xs) h2) X) X
def wTup (a : WA) : WE := fun ρ h Q X => a ρ h (fun xs h1 => xs.length ≤ sizeLine ∧ Q (.tup xs) h1) X
def wLst (m : Bool) (a : WA) : WE := fun ρ h Q X => a ρ h (fun xs h1 => xs.length ≤ sizeLine ∧ newL m xs h1 Q) X
def wCallP (S : FSpec) (n : Nat) (g : List D → List D → List D) (wa : WA) : WE := fun ρ h Q X => wa ρ h (fun ds h1 => ds.length = n ∧ S (g ds []) h1 Q X) X
/-- a built-in -/
def wB (r : List D → AH → KD → Prop) (a : WA) : WE := fun ρ h Q X => a ρ h (fun xs h1 => r xs h1 Q) X
section
variable {X : Cx} {E : XK} {k : Nat} {a b e : Expr} {es : List Expr} {wa wb wc : WE} {ta tb : WT} {wl : WA} {pos : Pos}
theorem ae_c {v : V} {d : D} (h : PE X e (tC v)) (r : ∀ F, Rep X.K F d v) : AE X E e (wC d) := by
  refine ⟨PE.imp h fun σ H Q ⟨F, ρ, g, S, R, q⟩ => ?_, fun ρ h Q Q' X X' hq _ q => hq _ _ q⟩
  exact LQ.at q S (r F)
theorem ae_int {i : Int} {j pos} : AE X E (.Constant (.int i) j pos) (wC (.int i)) := ae_c pe_int fun _ => .int i
theorem ae_bl {i : Bool} {j pos} : AE X E (.Constant (.bool i) j pos) (wC (.bl i)) := ae_c pe_bl fun _ => .bl i
theorem ae_non {j pos} : AE X E (.Constant .none j pos) (wC .non) := ae_c pe_non fun _ => .non
theorem ae_str {i : Str} {j pos} : AE X E (.Constant (.str i) j pos) (wC (.str i)) := ae_c pe_str fun _ => .str i
/-- what a name of the module holds -/
structure Cst (K : PySem.W.Frag) (mg : Str → Option Value) (x : Str) (d : D) : Prop where
  ex : ∃ v u, mg x = some u ∧ RelV v u ∧ ∀ F, Rep K F d v
theorem ae_glob {x : Str} {d : D} (c : Cst X.K X.mg x d) (hg : Gl X x := by rfl) (hd : (x == ("__debug__" : Str)) = false := by decide) : AE X E (.Name x pos) (wC d) := by
  obtain ⟨v, u, m, r, q⟩ := c.ex
  exact ae_c (pe_glob hg m r hd) q
theorem ae_ty {x : Str} {n : String} (hm : X.mg x = none) (hv : bootBuiltins x = some (.type n)) (hg : Gl X x := by rfl) (hn : x ≠ "__name__" := by decide) (hd : (x == ("__debug__" : Str)) = false := by decide) : AE X E (.Name x pos) (wC (.ty n)) :=
  ae_c (pe_bltn hg hm hv (v := .ty n) rfl hn hd) fun _ => .ty n
theorem ae_var (i : Nat) {x : Str} (hN : X.N[i]? = some x := by rfl) (hv : Vis X.env.scope x := by first | exact Or.inl rfl | exact Or.inr (Or.inl rfl) | exact Or.inr (Or.inr rfl))
    (hd : (x == ("__debug__" : Str)) = false := by decide) (hcd : (x == ("__classdict__" : Str)) = false := by decide) : AE X E (.Name x pos) (wVar i) := by
  refine ⟨PE.imp (pe_var hN hv hd hcd) fun σ H Q ⟨F, ρ, g, S, R, q⟩ => ?_, fun ρ h Q Q' X X' hq _ q => ?_⟩
  · unfold wVar at q
    split at q
    · rename_i d e
      obtain ⟨v, h1, h2⟩ := R.2 i d e
      exact ⟨v, h1, LQ.at q S h2⟩
    · exact q.elim
  · unfold wVar at *
    split at q
    · exact hq _ _ q
    · exact q.elim
/-- two expressions, then an operator of values -/
theorem two {r : R2} {f : D → D → AH → KD → Prop} (ok : OpD X.K r f) (ha : AE X E a wa) (hb : AE X E b wb) {σ : L2.St} {H : Hp} {Q : VK} (h : tE X.K E (wOp f wa wb) σ H Q) : tOp r (tE X.K E wa) (tE X.K E wb) σ H Q := by
  obtain ⟨F, ρ, g, S, R, q⟩ := h
  refine ⟨F, ρ, g, S, R, ha.mo _ _ _ _ _ _ (fun x h1 hx => ?_) (fun _ _ z => z) q⟩
  intro F1 H1 vx e1 S1 rx
  refine ⟨F1, ρ, h1, S1, R.ext e1, hb.mo _ _ _ _ _ _ (fun y h2 hf => ?_) (fun _ _ z => LX.ext e1 z) hx⟩
  intro F2 H2 vy e2 S2 ry
  exact ok.to S2 (rx.ext e2) ry (ok.mo (fun _ _ z => LQ.ext (e1.trans e2) z) hf)
theorem mo_op {f : D → D → AH → KD → Prop} (mo : ∀ {x y h} {Q Q' : KD}, (∀ d h, Q d h → Q' d h) → f x y h Q → f x y h Q') (ma : MoE wa) (mb : MoE wb) : MoE (wOp f wa wb) := fun ρ h Q Q' X X' hq hx q =>
  ma _ _ _ _ _ _ (fun x h1 q1 => mb _ _ _ _ _ _ (fun y h2 q2 => mo hq q2) hx q1) hx q
theorem ae_bin {op : Operator} {r : R2} {f : D → D → AH → KD → Prop} (ok : OpD X.K r f) (ho : OpR X (binaryOp op) r) (ha : AE X E a wa) (hb : AE X E b wb) : AE X E (.BinOp a op b pos) (wOp f wa wb) :=
  ⟨PE.imp (pe_op ho ha.run hb.run) fun σ H Q h => two ok ha hb h, mo_op ok.mo ha.mo hb.mo⟩
theorem ae_add (m : Bool) (ha : AE X E a wa) (hb : AE X E b wb) : AE X E (.BinOp a .Add b pos) (wOp (dAdd m) wa wb) := ae_bin dAdd_ok op_addD ha hb
theorem ae_sub (ha : AE X E a wa) (hb : AE X E b wb) : AE X E (.BinOp a .Sub b pos) (wOp dSub wa wb) := ae_bin dSub_ok op_sub ha hb
theorem ae_mul (m : Bool) (ha : AE X E a wa) (hb : AE X E b wb) : AE X E (.BinOp a .Mult b pos) (wOp (dMul m) wa wb) := ae_bin (r := rMul X.K) dMul_ok op_mulD ha hb
theorem ae_div (ha : AE X E a wa) (hb : AE X E b wb) : AE X E (.BinOp a .FloorDiv b pos) (wOp dDiv wa wb) := ae_bin dDiv_ok op_divD ha hb
theorem ae_mod (ha : AE X E a wa) (hb : AE X E b wb) : AE X E (.BinOp a .Mod b pos) (wOp dMod wa wb) := ae_bin dMod_ok op_mod ha hb
theorem ae_pow (ha : AE X E a wa) (hb : AE X E b wb) : AE X E (.BinOp a .Pow b pos) (wOp dPow wa wb) := ae_bin dPow_ok op_pow ha hb
theorem ae_neg (ha : AE X E a wa) : AE X E (.UnaryOp .USub a pos) (wNeg wa) := by
  refine ⟨PE.imp (pe_un un_neg ha.run) fun σ H Q ⟨F, ρ, g, S, R, q⟩ => ?_, fun ρ h Q Q' X X' hq hx q => ?_⟩
  · refine ⟨F, ρ, g, S, R, ha.mo _ _ _ _ _ _ (fun x h1 hx => ?_) (fun _ _ z => z) q⟩
    intro F1 H1 vx e1 S1 rx
    split at hx
    · cases rx; exact ⟨_, rfl, hx F1 H1 _ e1 S1 (.int _)⟩
    · exact hx.elim
  · refine ha.mo _ _ _ _ _ _ (fun x h1 q1 => ?_) hx q
    split at q1
    · exact hq _ _ q1
    · exact q1.elim
theorem ae_cmp {op : CmpOp} {r : R2} {f : D → D → AH → KD → Prop} (ok : OpD X.K r f) (ho : OpR X (compareOp op) r) (ha : AE X E a wa) (hb : AE X E b wb) (hm : behindInMarks op b = false := by first | exact nobehind _ (by decide) (by decide) | rfl) : AE X E (.Compare a [op] [b] pos) (wOp f wa wb) :=
  ⟨PE.imp (pe_cmpR ho ha.run hb.run hm) fun σ H Q h => two ok ha hb h, mo_op ok.mo ha.mo hb.mo⟩
theorem ae_lt (ha : AE X E a wa) (hb : AE X E b wb) : AE X E (.Compare a [.Lt] [b] pos) (wOp (dCmpI fun i j => decide (i < j)) wa wb) := ae_cmp dCmpI_ok op_lt ha hb
theorem ae_le (ha : AE X E a wa) (hb : AE X E b wb) : AE X E (.Compare a [.LtE] [b] pos) (wOp (dCmpI fun i j => decide (i ≤ j)) wa wb) := ae_cmp dCmpI_ok op_le ha hb
theorem ae_gt (ha : AE X E a wa) (hb : AE X E b wb) : AE X E (.Compare a [.Gt] [b] pos) (wOp (dCmpI fun i j => decide (j < i)) wa wb) := ae_cmp dCmpI_ok op_gt ha hb
theorem ae_eq (c : Cg gz X E k) (ha : AE X E a wa) (hb : AE X E b wb) : AE X E (.Compare a [.Eq] [b] pos) (wOp (dEq fun b => b) wa wb) := ae_cmp dEq_ok (op_eqF c.room.units) ha hb
theorem ae_is (ha : AE X E a wa) (hb : AE X E b wb) : AE X E (.Compare a [.Is] [b] pos) (wOp (dIsN fun b => b) wa wb) := ae_cmp dIsN_ok op_isF ha hb
theorem mo_chain {f g : D → D → AH → KD → Prop} (mf : ∀ {x y h} {Q Q' : KD}, (∀ d h, Q d h → Q' d h) → f x y h Q → f x y h Q') (mg : ∀ {x y h} {Q Q' : KD}, (∀ d h, Q d h → Q' d h) → g x y h Q → g x y h Q') (ma : MoE wa) (mb : MoE wb) (mc : MoE wc) : MoE (wChain f g wa wb wc) := fun ρ h Q Q' X X' hq hx q =>
  ma _ _ _ _ _ _ (fun x h1 q1 => mb _ _ _ _ _ _ (fun y h2 q2 => mf (fun z h3 q3 => by
    split at q3
    · split at q3
      · rename_i c; simp only [c, if_true]; exact mc _ _ _ _ _ _ (fun u h4 q4 => mg hq q4) hx q3
      · rename_i c; simp only [if_neg c]; exact hq _ _ q3
    · exact q3.elim) q2) hx q1) hx q
/-! ### tests -/
theorem at_val (ha : AE X E a wa) (he : ∀ whole, isTrue a X.env whole = (do let v ← whole; standAt a.pos; holding [v] (truthy v)) := by intro _; rfl) : AT X E a (wTest wa) := by
  refine ⟨PT.imp (pt_val ha.run he) fun σ H Q ⟨F, ρ, g, S, R, q⟩ => ?_, fun ρ h Q Q' X X' hq hx q => ?_⟩
  · refine ⟨F, ρ, g, S, R, ha.mo _ _ _ _ _ _ (fun x h1 hx => ?_) (fun _ _ z => z) q⟩
    intro F1 H1 vx e1 S1 rx
    split at hx
    · cases rx; exact ⟨_, rfl, hx F1 H1 e1 S1⟩
    · exact hx.elim
  · refine ha.mo _ _ _ _ _ _ (fun x h1 q1 => ?_) hx q
    split at q1
    · exact hq _ _ q1
    · exact q1.elim
theorem at_cmp {op : CmpOp} {r : R2} {f : D → D → AH → KD → Prop} (ok : OpD X.K r f) (ho : OpR X (compareOp op) r) (ha : AE X E a wa) (hb : AE X E b wb) (hm : behindInMarks op b = false := by first | exact nobehind _ (by decide) (by decide) | rfl) : AT X E (.Compare a [op] [b] pos) (wTest (wOp f wa wb)) := by
  have M : MoE (wOp f wa wb) := mo_op ok.mo ha.mo hb.mo
  refine ⟨PT.imp (pt_cmpR ho ha.run hb.run hm) fun σ H Q ⟨F, ρ, g, S, R, q⟩ => ?_, fun ρ h Q Q' X X' hq hx q => ?_⟩
  · refine two ok ha hb ⟨F, ρ, g, S, R, M _ _ _ _ _ _ (fun x h1 hx => ?_) (fun _ _ z => z) q⟩
    intro F1 H1 vx e1 S1 rx
    split at hx
    · cases rx; exact ⟨_, rfl, hx F1 H1 e1 S1⟩
    · exact hx.elim
  · refine M _ _ _ _ _ _ (fun x h1 q1 => ?_) hx q
    split at q1
    · exact hq _ _ q1
    · exact q1.elim
theorem at_lt (ha : AE X E a wa) (hb : AE X E b wb) : AT X E (.Compare a [.Lt] [b] pos) (wTest (wOp (dCmpI fun i j => decide (i < j)) wa wb)) := at_cmp dCmpI_ok op_lt ha hb
theorem at_gt (ha : AE X E a wa) (hb : AE X E b wb) : AT X E (.Compare a [.Gt] [b] pos) (wTest (wOp (dCmpI fun i j => decide (j < i)) wa wb)) := at_cmp dCmpI_ok op_gt ha hb
theorem at_ge (ha : AE X E a wa) (hb : AE X E b wb) : AT X E (.Compare a [.GtE] [b] pos) (wTest (wOp (dCmpI fun i j => decide (j ≤ i)) wa wb)) := at_cmp dCmpI_ok op_ge ha hb
theorem at_eq (c : Cg gz X E k) (ha : AE X E a wa) (hb : AE X E b wb) : AT X E (.Compare a [.Eq] [b] pos) (wTest (wOp (dEq fun b => b) wa wb)) := at_cmp dEq_ok (op_eqF c.room.units) ha hb
theorem at_ne (c : Cg gz X E k) (ha : AE X E a wa) (hb : AE X E b wb) : AT X E (.Compare a [.NotEq] [b] pos) (wTest (wOp (dEq fun b => !b) wa wb)) := at_cmp dEq_ok (op_neF c.room.units) ha hb
theorem at_is (ha : AE X E a wa) (hb : AE X E b wb) : AT X E (.Compare a [.Is] [b] pos) (wTest (wOp (dIsN fun b => b) wa wb)) := at_cmp dIsN_ok op_isF ha hb
theorem at_isnot (ha : AE X E a wa) (hb : AE X E b wb) : AT X E (.Compare a [.IsNot] [b] pos) (wTest (wOp (dIsN fun b => !b) wa wb)) := at_cmp dIsN_ok op_notF ha hb
theorem Sim.truD {K : PySem.W.Frag} {F : Hp} {h : AH} {H : Hp} {d : D} {v : V} {c : Bool} (S : Sim K F h H) (r : Rep K F d v) (q : truD h d = some c) : TruV K v H c := by
  cases r with
  | ref a =>
    cases e : h a with
    | none => simp [DL.truD, cur, e] at q
    | some o =>
      obtain ⟨_, u, hu, ro⟩ := S.ob _ _ e
      cases o with
      | lst xs =>
        obtain ⟨vs, rfl, rs⟩ := ro
        simp only [DL.truD, cur, e, Option.some.injEq] at q
        refine .inl ⟨vs, .of hu, ?_⟩
        rw [← q]; cases rs <;> rfl
      | dK xs =>
        obtain ⟨vs, rfl, rs⟩ := ro
        simp only [DL.truD, cur, e, Option.some.injEq] at q
        refine .inr (.inr ⟨vs, hu, ?_⟩)
        rw [← q]; cases rs <;> rfl
      | dT _ => simp [DL.truD, cur, e] at q
      | ins _ _ => simp [DL.truD, cur, e] at q
      | lck _ => simp [DL.truD, cur, e] at q
      | lckK _ _ => simp [DL.truD, cur, e] at q
      | tab _ => simp [DL.truD, cur, e] at q
  | non => simp only [DL.truD, cur, Option.some.injEq] at q; exact q.symm
  | bl b => simp only [DL.truD, cur, Option.some.injEq] at q; exact q.symm
  | int i => simp only [DL.truD, cur, Option.some.injEq] at q; exact q.symm
  | str s => simp [DL.truD, cur] at q
  | ty n => simp [DL.truD, cur] at q
  | lk _ _ => simp [DL.truD, cur] at q
  | ob _ _ => simp [DL.truD, cur] at q
  | xob0 _ => simp [DL.truD, cur] at q
  | lam _ _ => simp [DL.truD, cur] at q
  | xob _ _ _ => simp [DL.truD, cur] at q
  | @tup a xs vs h r =>
    simp only [DL.truD, cur, Option.some.injEq] at q
    refine .inr (.inl ⟨vs, sqt_of S.fz h, ?_⟩)
    rw [← q]; cases r <;> rfl
  | @tpl a ob xs vs h hd r =>
    simp only [DL.truD, cur, Option.some.injEq] at q
    refine .inr (.inl ⟨vs, sqt_of S.fz (.inl (.inr ⟨_, h⟩)), ?_⟩)
    rw [← q]; cases r <;> rfl
  | @lst a xs vs h r =>
    simp only [DL.truD, cur, Option.some.injEq] at q
    refine .inl ⟨vs, .of (S.fz _ _ h), ?_⟩
    rw [← q]; cases r <;> rfl
  | @dK a xs vs h r =>
    simp only [DL.truD, cur, Option.some.injEq] at q
    refine .inr (.inr ⟨vs, S.fz _ _ h, ?_⟩)
    rw [← q]; cases r <;> rfl
  | dT _ _ => simp [DL.truD, cur] at q
theorem at_truth (ha : AE X E a wa) (he : ∀ whole, isTrue a X.env whole = (do let v ← whole; standAt a.pos; holding [v] (truthy v)) := by intro _; rfl) : AT X E a (wTruth wa) := by
  refine ⟨PT.imp (pt_truth ha.run he) fun σ H Q ⟨F, ρ, g, S, R, q⟩ => ?_, fun ρ h Q Q' X X' hq hx q => ?_⟩
  · refine ⟨F, ρ, g, S, R, ha.mo _ _ _ _ _ _ (fun x h1 hx => ?_) (fun _ _ z => z) q⟩
    intro F1 H1 vx e1 S1 rx
    obtain ⟨c, hc, hx⟩ := hx
    exact ⟨c, S1.truD rx hc, hx F1 H1 e1 S1⟩
  · exact ha.mo _ _ _ _ _ _ (fun x h1 ⟨c, hc, q1⟩ => ⟨c, hc, hq _ _ q1⟩) hx q
theorem mo_and {a b : WT} (ma : MoT a) (mb : MoT b) : MoT (wAnd a b) := fun ρ h Q Q' X X' hq hx q => ma _ _ _ _ _ _ (fun c h1 q1 => by
  split at q1
  · rename_i e; rw [if_pos e]; exact mb _ _ _ _ _ _ hq hx q1
  · rename_i e; rw [if_neg e]; exact hq _ _ q1) hx q
theorem mo_or {a b : WT} (ma : MoT a) (mb : MoT b) : MoT (wOr a b) := fun ρ h Q Q' X X' hq hx q => ma _ _ _ _ _ _ (fun c h1 q1 => by
  split at q1
  · rename_i e; rw [if_pos e]; exact hq _ _ q1
  · rename_i e; rw [if_neg e]; exact mb _ _ _ _ _ _ hq hx q1) hx q
theorem AW.at (h : AW X E a ta) : AT X E a ta := ⟨h.run.pt, h.mo⟩
theorem aw_and1 (ha : AT X E a ta) : AW X E (.BoolOp .And [a] pos) ta := ⟨pw_and1 ha.run, ha.mo⟩
theorem aw_or1 (ha : AT X E a ta) : AW X E (.BoolOp .Or [a] pos) ta := ⟨pw_or1 ha.run, ha.mo⟩
theorem aw_and {rest : List Expr} (ha : AT X E a ta) (hb : AW X E (.BoolOp .And (b :: rest) pos) tb) : AW X E (.BoolOp .And (a :: b :: rest) pos) (wAnd ta tb) := by
  refine ⟨PW.imp (pw_and ha.run hb.run) fun σ H Q ⟨F, ρ, g, S, R, q⟩ => ?_, mo_and ha.mo hb.mo⟩
  refine ⟨F, ρ, g, S, R, ha.mo _ _ _ _ _ _ (fun x h1 hx => ?_) (fun _ _ z => z) q⟩
  intro F1 H1 e1 S1
  split at hx
  · rename_i e; rw [if_pos e]
    exact ⟨F1, ρ, h1, S1, R.ext e1, hb.mo _ _ _ _ _ _ (fun _ _ z => LB.ext e1 z) (fun _ _ z => LX.ext e1 z) hx⟩
  · rename_i e; rw [if_neg e]
    exact hx F1 H1 e1 S1
theorem aw_or {rest : List Expr} (ha : AT X E a ta) (hb : AW X E (.BoolOp .Or (b :: rest) pos) tb) : AW X E (.BoolOp .Or (a :: b :: rest) pos) (wOr ta tb) := by
  refine ⟨PW.imp (pw_or ha.run hb.run) fun σ H Q ⟨F, ρ, g, S, R, q⟩ => ?_, mo_or ha.mo hb.mo⟩
  refine ⟨F, ρ, g, S, R, ha.mo _ _ _ _ _ _ (fun x h1 hx => ?_) (fun _ _ z => z) q⟩
  intro F1 H1 e1 S1
  split at hx
  · rename_i e; rw [if_pos e]
    exact hx F1 H1 e1 S1
  · rename_i e; rw [if_neg e]
    exact ⟨F1, ρ, h1, S1, R.ext e1, hb.mo _ _ _ _ _ _ (fun _ _ z => LB.ext e1 z) (fun _ _ z => LX.ext e1 z) hx⟩
theorem at_not (ha : AT X E a ta) : AT X E (.UnaryOp .Not a pos) (wNot ta) := by
  refine ⟨PT.imp (pt_not ha.run) fun σ H Q ⟨F, ρ, g, S, R, q⟩ => ?_, fun ρ h Q Q' X X' hq hx q => ha.mo _ _ _ _ _ _ (fun c h1 q1 => hq _ _ q1) hx q⟩
  exact ⟨F, ρ, g, S, R, ha.mo _ _ _ _ _ _ (fun x h1 hx F1 H1 e1 S1 => hx F1 H1 e1 S1) (fun _ _ z => z) q⟩
/-! ### and, or, not as values -/
theorem ae_one {op} (ha : AE X E a wa) : AE X E (.BoolOp op [a] pos) wa := ⟨pe_one ha.run, ha.mo⟩
theorem ae_and {rest : List Expr} (ha : AE X E a wa) (hb : AE X E (.BoolOp .And (b :: rest) pos) wb) : AE X E (.BoolOp .And (a :: b :: rest) pos) (wAndV wa wb) := by
  refine ⟨PE.imp (pe_and ha.run hb.run) fun σ H Q ⟨F, ρ, g, S, R, q⟩ => ?_, fun ρ h Q Q' X X' hq hx q => ?_⟩
  · refine ⟨F, ρ, g, S, R, ha.mo _ _ _ _ _ _ (fun x h1 hx => ?_) (fun _ _ z => z) q⟩
    intro F1 H1 vx e1 S1 rx
    split at hx
    · cases rx
      refine ⟨_, rfl, ?_⟩
      split at hx
      · rename_i e; rw [if_pos e]
        exact ⟨F1, ρ, h1, S1, R.ext e1, hb.mo _ _ _ _ _ _ (fun _ _ z => LQ.ext e1 z) (fun _ _ z => LX.ext e1 z) hx⟩
      · rename_i e; rw [if_neg e]
        exact hx F1 H1 _ e1 S1 (.bl _)
    · exact hx.elim
  · refine ha.mo _ _ _ _ _ _ (fun x h1 q1 => ?_) hx q
    split at q1
    · split at q1
      · rename_i e; simp only [if_pos e]; exact hb.mo _ _ _ _ _ _ hq hx q1
      · rename_i e; simp only [if_neg e]; exact hq _ _ q1
    · exact q1.elim
theorem ae_or {rest : List Expr} (ha : AE X E a wa) (hb : AE X E (.BoolOp .Or (b :: rest) pos) wb) : AE X E (.BoolOp .Or (a :: b :: rest) pos) (wOrV wa wb) := by
  refine ⟨PE.imp (pe_or ha.run hb.run) fun σ H Q ⟨F, ρ, g, S, R, q⟩ => ?_, fun ρ h Q Q' X X' hq hx q => ?_⟩
  · refine ⟨F, ρ, g, S, R, ha.mo _ _ _ _ _ _ (fun x h1 hx => ?_) (fun _ _ z => z) q⟩
    intro F1 H1 vx e1 S1 rx
    split at hx
    · cases rx
      refine ⟨_, rfl, ?_⟩
      split at hx
      · rename_i e; rw [if_pos e]
        exact hx F1 H1 _ e1 S1 (.bl _)
      · rename_i e; rw [if_neg e]
        exact ⟨F1, ρ, h1, S1, R.ext e1, hb.mo _ _ _ _ _ _ (fun _ _ z => LQ.ext e1 z) (fun _ _ z => LX.ext e1 z) hx⟩
    · exact hx.elim
  · refine ha.mo _ _ _ _ _ _ (fun x h1 q1 => ?_) hx q
    split at q1
    · split at q1
      · rename_i e; simp only [if_pos e]; exact hq _ _ q1
      · rename_i e; simp only [if_neg e]; exact hb.mo _ _ _ _ _ _ hq hx q1
    · exact q1.elim
theorem ae_not (ha : AE X E a wa) : AE X E (.UnaryOp .Not a pos) (wNotV wa) := by
  refine ⟨PE.imp (pe_not ha.run) fun σ H Q ⟨F, ρ, g, S, R, q⟩ => ?_, fun ρ h Q Q' X X' hq hx q => ?_⟩
  · refine ⟨F, ρ, g, S, R, ha.mo _ _ _ _ _ _ (fun x h1 hx => ?_) (fun _ _ z => z) q⟩
    intro F1 H1 vx e1 S1 rx
    split at hx
    · cases rx; exact ⟨_, rfl, hx F1 H1 _ e1 S1 (.bl _)⟩
    · exact hx.elim
  · refine ha.mo _ _ _ _ _ _ (fun x h1 q1 => ?_) hx q
    split at q1
    · exact hq _ _ q1
    · exact q1.elim
theorem ae_if {c : Expr} (hc : AT X E c ta) (ha : AE X E a wa) (hb : AE X E b wb) : AE X E (.IfExp c a b pos) (wIf ta wa wb) := by
  refine ⟨PE.imp (pe_ifExp hc.run ha.run hb.run) fun σ H Q ⟨F, ρ, g, S, R, q⟩ => ?_, fun ρ h Q Q' X X' hq hx q => hc.mo _ _ _ _ _ _ (fun c h1 q1 => ?_) hx q⟩
  · refine ⟨F, ρ, g, S, R, hc.mo _ _ _ _ _ _ (fun x h1 hx => ?_) (fun _ _ z => z) q⟩
    intro F1 H1 e1 S1
    split at hx
    · rename_i e; rw [if_pos e]
      exact ⟨F1, ρ, h1, S1, R.ext e1, ha.mo _ _ _ _ _ _ (fun _ _ z => LQ.ext e1 z) (fun _ _ z => LX.ext e1 z) hx⟩
    · rename_i e; rw [if_neg e]
      exact ⟨F1, ρ, h1, S1, R.ext e1, hb.mo _ _ _ _ _ _ (fun _ _ z => LQ.ext e1 z) (fun _ _ z => LX.ext e1 z) hx⟩
  · split at q1
    · rename_i e; rw [if_pos e]; exact ha.mo _ _ _ _ _ _ hq hx q1
    · rename_i e; rw [if_neg e]; exact hb.mo _ _ _ _ _ _ hq hx q1
/-! ### argument lists, displays -/
theorem aa_nil : AA X E [] wNil := ⟨PA.imp pa_nil fun σ H Q ⟨F, ρ, g, S, R, q⟩ => q F H [] (.refl F) S .nil, fun ρ h Q Q' X X' hq hx q => hq _ _ q⟩
theorem aa_cons (ha : AE X E e wa) (hr : AA X E es wl) (hs : starEach (e :: es) X.env = (false, eval e X.env) :: starEach es X.env := by rfl) : AA X E (e :: es) (wCons wa wl) := by
  refine ⟨PA.imp (pa_cons ha.run hr.run hs) fun σ H Q ⟨F, ρ, g, S, R, q⟩ => ?_, fun ρ h Q Q' X X' hq hx q => ha.mo _ _ _ _ _ _ (fun x h1 q1 => hr.mo _ _ _ _ _ _ (fun xs h2 q2 => hq _ _ q2) hx q1) hx q⟩
  refine ⟨F, ρ, g, S, R, ha.mo _ _ _ _ _ _ (fun x h1 hx => ?_) (fun _ _ z => z) q⟩
  intro F1 H1 vx e1 S1 rx
  refine ⟨F1, ρ, h1, S1, R.ext e1, hr.mo _ _ _ _ _ _ (fun xs h2 h3 => ?_) (fun _ _ z => LX.ext e1 z) hx⟩
  intro F2 H2 vs e2 S2 rs
  exact h3 F2 H2 _ (e1.trans e2) S2 (.cons (rx.ext e2) rs)
theorem ae_tup {x1} (h : AA X E es wl) : AE X E (.Tuple es x1 pos) (wTup wl) := by
  refine ⟨PE.imp (pe_tup h.run) fun σ H Q ⟨F, ρ, g, S, R, q⟩ => ?_, fun ρ h0 Q Q' X X' hq hx q => h.mo _ _ _ _ _ _ (fun x h1 q1 => ⟨q1.1, hq _ _ q1.2⟩) hx q⟩
  refine ⟨F, ρ, g, S, R, h.mo _ _ _ _ _ _ (fun xs h1 hx => ?_) (fun _ _ z => z) q⟩
  intro F1 H1 vs e1 S1 rs
  exact ⟨by rw [← rs.length]; exact hx.1, S1.newT rs (LQ.ext e1 hx.2)⟩
theorem ae_lst (m : Bool) (h : AA X E es wl) : AE X E (.List es pos) (wLst m wl) := by
  refine ⟨PE.imp (pe_lst h.run) fun σ H Q ⟨F, ρ, g, S, R, q⟩ => ?_, fun ρ h0 Q Q' X X' hq hx q => h.mo _ _ _ _ _ _ (fun x h1 q1 => ⟨q1.1, newL_mo hq q1.2⟩) hx q⟩
  refine ⟨F, ρ, g, S, R, h.mo _ _ _ _ _ _ (fun xs h1 hx => ?_) (fun _ _ z => z) q⟩
  intro F1 H1 vs e1 S1 rs
  exact ⟨by rw [← rs.length]; exact hx.1, S1.newL rs (newL_mo (fun _ _ z => LQ.ext e1 z) hx.2)⟩
/-! ### calls -/
theorem ae_call {n j : Nat} {gg : List D → List D → List D} {S : FSpec} {x : Str} {p : Pos} (c : Cg gz X E k) (C : Cal gy X.prog X.w X.K X.mg X.base x j n [] gg S) (hj : j ≤ k) (hz : gy = true → gz = true) (ha : AA X E (e :: es) wl)
    (hg : Gl X x := by rfl) (hdb : (x == ("__debug__" : Str)) = false := by decide) (he : starEach (e :: es) X.env = (false, eval e X.env) :: starEach es X.env := by rfl)
    (hpl : (backTo pos (starEach es X.env)).any (·.1) = false := by rfl) : AE X E (.Call (.Name x p) (e :: es) [] pos) (wCallP S n gg wl) := by
  obtain ⟨f, fd, ps, hm, hk, G, B⟩ := C.ex
  refine ⟨⟨fun pins s σ H Q I hq => ?_⟩, fun ρ h0 Q Q' X X' hq hx q => ha.mo _ _ _ _ _ _ (fun x h1 q1 => ⟨q1.1, G.mo _ _ _ _ _ _ hq hx q1.2⟩) hx q⟩
  obtain ⟨F, ρ, g, S0, R, q⟩ := hq
  refine wpAny_Call_Name_kw (ld_glob I hg hm ?_ hdb)
  refine PySem.W.callWith_K (h₀ := X.base) I.ok.mod.kin hk
    (thn (ha.run.run pos pins s σ H (fun vs H1 => ∃ F1 h1 ds, Sim X.K F1 h1 H1 ∧ Reps X.K F1 ds vs ∧ ds.length = n ∧ S (gg ds []) h1 (LQ X.K F1 Q) (LX X.K F1 E)) I
      ⟨F, ρ, g, S0, R, ha.mo _ _ _ _ _ _ (fun ds h1 q1 F1 H1 vs e1 S1 rs => ⟨F1, h1, ds, S1, rs, q1.1, G.mo _ _ _ _ _ _ (fun _ _ z => LQ.ext e1 z) (fun _ _ z => LX.ext e1 z) q1.2⟩) (fun _ _ z => z) q⟩) fun us s1 hh => ?_) he hpl
  obtain ⟨vs, H1, I1, r1, F1, h1, ds, S1, rs, l, q1⟩ := hh
  refine ⟨I1.kIn, ?_⟩
  obtain ⟨xs, ts, rx, rt, bt⟩ := B.to s1 F1 ds [] vs [] us [] I1.kIn l rfl rs r1 .nil .nil
  exact wpAny_call (codeAny_mono (run_g (c.mono hj) G hz I1 bt rt ⟨F1, _, h1, S1, rx, q1⟩) fun r s' hr => by
    match r, hr with
    | .error _, hr => exact hr
    | .ok (.ret _), hr => exact hr)
/-- a built-in by values -/
structure CaD (X : Cx) (f : Value) (r : List D → AH → KD → Prop) : Prop where
  ex : ∃ rv, CallR X f rv ∧ ∀ {F h H ds vs} {Q : VK}, Sim X.K F h H → Reps X.K F ds vs → r ds h (LQ X.K F Q) → rv vs H Q
  mo : ∀ {ds h} {Q Q' : KD}, (∀ d h, Q d h → Q' d h) → r ds h Q → r ds h Q'
theorem ae_b {id : String} {x : Str} {p : Pos} {r : List D → AH → KD → Prop} (C : CaD X (.builtin id) r) (hm : X.mg x = none) (hv : bootBuiltins x = some (.builtin id)) (ha : AA X E (e :: es) wl)
    (hg : Gl X x := by rfl) (hn : x ≠ "__name__" := by decide) (hdb : (x == ("__debug__" : Str)) = false := by decide)
    (he : starEach (e :: es) X.env = (false, eval e X.env) :: starEach es X.env := by rfl) (hpl : (backTo pos (starEach es X.env)).any (·.1) = false := by rfl) : AE X E (.Call (.Name x p) (e :: es) [] pos) (wB r wl) := by
  obtain ⟨rv, hc, to⟩ := C.ex
  refine ⟨PE.imp (pe_callB hc hg hm hv ha.run hn hdb he hpl) fun σ H Q ⟨F, ρ, g, S, R, q⟩ => ?_, fun ρ h0 Q Q' X X' hq hx q => ha.mo _ _ _ _ _ _ (fun x h1 q1 => C.mo hq q1) hx q⟩
  exact ⟨F, ρ, g, S, R, ha.mo _ _ _ _ _ _ (fun ds h1 q1 F1 H1 vs e1 S1 rs => to S1 rs (C.mo (fun _ _ z => LQ.ext e1 z) q1)) (fun _ _ z => z) q⟩
theorem ae_bt {T : String} {x : Str} {p : Pos} {r : List D → AH → KD → Prop} (C : CaD X (.type T) r) (hm : X.mg x = none) (hv : bootBuiltins x = some (.type T)) (ha : AA X E (e :: es) wl)
    (hg : Gl X x := by rfl) (hn : x ≠ "__name__" := by decide) (hdb : (x == ("__debug__" : Str)) = false := by decide)
    (he : starEach (e :: es) X.env = (false, eval e X.env) :: starEach es X.env := by rfl) (hpl : (backTo pos (starEach es X.env)).any (·.1) = false := by rfl) : AE X E (.Call (.Name x p) (e :: es) [] pos) (wB r wl) := by
  obtain ⟨rv, hc, to⟩ := C.ex
  refine ⟨PE.imp (pe_callTy hc hg hm hv ha.run hn hdb he hpl) fun σ H Q ⟨F, ρ, g, S, R, q⟩ => ?_, fun ρ h0 Q Q' X X' hq hx q => ha.mo _ _ _ _ _ _ (fun x h1 q1 => C.mo hq q1) hx q⟩
  exact ⟨F, ρ, g, S, R, ha.mo _ _ _ _ _ _ (fun ds h1 q1 F1 H1 vs e1 S1 rs => to S1 rs (C.mo (fun _ _ z => LQ.ext e1 z) q1)) (fun _ _ z => z) q⟩
end
end DL
namespace DL
open PySem PySem.Spec L2
/-! ### statements over data -/
def wSkip : WS := fun D ρ h => D.nx ρ h
def wSeq (a b : WS) : WS := fun D ρ h => a { D with nx := b D } ρ h
def wExpr (a : WE) : WS := fun D ρ h => a ρ h (fun _ h1 => D.nx ρ h1) D.ex
def wRet (a : WE) : WS := fun D ρ h => a ρ h D.rt D.ex
def wRetN : WS := fun D _ h => D.rt .non h
def wIfS (t : WT) (a b : WS) : WS := fun D ρ h => t ρ h (fun c h1 => if c = true then a D ρ h1 else b D ρ h1) D.ex
abbrev WG := D → EnvD → AH → (EnvD → AH → Prop) → KX → Prop
abbrev WGs := List D → EnvD → AH → (EnvD → AH → Prop) → KX → Prop
def gN (i : Nat) : WG := fun d ρ h Q _ => Q (ρ.set i (some d)) h
def gsNil : WGs := fun ds ρ h Q _ => ds = [] ∧ Q ρ h
def gsCons (g : WG) (r : WGs) : WGs := fun ds ρ h Q X => ∃ d ds', ds = d :: ds' ∧ g d ρ h (fun ρ1 h1 => r ds' ρ1 h1 Q X) X
def gT (n : Nat) (r : WGs) : WG := fun d ρ h Q X => ∃ xs, d = .tup xs ∧ xs.length = n ∧ r xs ρ h Q X
def wAsg (a : WE) (g : WG) : WS := fun D ρ h => a ρ h (fun x h1 => g x ρ h1 D.nx D.ex) D.ex
def wPar (i j : Nat) (a : WA) : WS := fun D ρ h => a ρ h (fun ds h1 => ∃ x y, ds = [x, y] ∧ D.nx ((ρ.set i (some x)).set j (some y)) h1) D.ex
def MoG (g : WG) : Prop := ∀ d ρ h Q Q' X X', (∀ ρ h, Q ρ h → Q' ρ h) → (∀ x h, X x h → X' x h) → g d ρ h Q X → g d ρ h Q' X'
def MoGs (g : WGs) : Prop := ∀ d ρ h Q Q' X X', (∀ ρ h, Q ρ h → Q' ρ h) → (∀ x h, X x h → X' x h) → g d ρ h Q X → g d ρ h Q' X'
def tG (K : PySem.W.Frag) (E : XK) (g : WG) : TG := fun v σ H Q => ∃ F ρ h d, Sim K F h H ∧ EnvR K F ρ σ ∧ Rep K F d v ∧ g d ρ h (LS K F Q) (LX K F E)
def tGs (K : PySem.W.Frag) (E : XK) (g : WGs) : TGs := fun v σ H Q => ∃ F ρ h d, Sim K F h H ∧ EnvR K F ρ σ ∧ Reps K F d v ∧ g d ρ h (LS K F Q) (LX K F E)
structure AG (X : Cx) (E : XK) (e : Expr) (g : WG) : Prop where
  run : PG X e (tG X.K E g)
  mo : MoG g
structure AGs (X : Cx) (E : XK) (es : List Expr) (g : WGs) : Prop where
  run : PGs X es (tGs X.K E g)
  mo : MoGs g
theorem PG.imp {X : Cx} {e : Expr} {t t' : TG} (p : PG X e t) (h : ∀ v σ H Q, t' v σ H Q → t v σ H Q) : PG X e t' := ⟨fun pins s σ H v u Q I r q => p.run pins s σ H v u Q I r (h _ _ _ _ q)⟩
theorem PGs.imp {X : Cx} {e : List Expr} {t t' : TGs} (p : PGs X e t) (h : ∀ v σ H Q, t' v σ H Q → t v σ H Q) : PGs X e t' := ⟨fun pins s σ H v u Q I r q => p.run pins s σ H v u Q I r (h _ _ _ _ q)⟩
section
variable {X : Cx} {E : XK} {k : Nat} {a b e : Expr} {es : List Expr} {wa wb wc : WE} {ta : WT} {wl : WA} {pos : Pos} {st : Stmt} {rest : List Stmt} {s1 s2 : WS}
theorem Le.nx {D D' : EndsD} (l : D.Le D') (q : ∀ ρ h, D.nx ρ h → D'.nx ρ h) : D.Le D' := ⟨q, l.rt, l.bk, l.ct, l.ex⟩
theorem ass_nil : ASs X E [] wSkip := ⟨PSs.imp pss_nil fun D σ H ⟨F, ρ, h, S, R, q⟩ => q F H σ (.refl F) S R, fun D D' ρ h l q => l.nx _ _ q⟩
theorem mo_seq (h1 : MoS s1) (h2 : MoS s2) : MoS (wSeq s1 s2) := fun D D' ρ h l q => h1 { D with nx := s2 D } { D' with nx := s2 D' } _ _ ⟨fun ρ h z => h2 _ _ _ _ l z, l.rt, l.bk, l.ct, l.ex⟩ q
theorem ass_cons (h1 : AS X E st s1) (h2 : ASs X E rest s2) : ASs X E (st :: rest) (wSeq s1 s2) := by
  refine ⟨PSs.imp (pss_cons h1.run h2.run) fun D σ H ⟨F, ρ, h, S, R, q⟩ => ?_, mo_seq h1.mo h2.mo⟩
  refine ⟨F, ρ, h, S, R, h1.mo { LD X.K F D E with nx := s2 (LD X.K F D E) } _ _ _ ⟨fun ρ1 g1 z => ?_, fun _ _ z => z, fun _ _ z => z, fun _ _ z => z, fun _ _ z => z⟩ q⟩
  intro F1 H1 σ1 e1 S1 R1
  exact ⟨F1, ρ1, g1, S1, R1, h2.mo _ _ _ _ (LD.ext e1) z⟩
theorem ass_one (h1 : AS X E st s1) : ASs X E [st] s1 := ⟨PSs.imp (pss_one h1.run) fun D σ H q => q, h1.mo⟩
theorem as_expr (he : AE X E e wa) (hs : swapsWith e none pos.line X.env = pure false := by rfl) : AS X E (.Expr e pos) (wExpr wa) := by
  refine ⟨PS.imp (ps_expr he.run hs) fun D σ H ⟨F, ρ, h, S, R, q⟩ => ?_, fun D D' ρ h l q => he.mo _ _ _ _ _ _ (fun _ _ z => l.nx _ _ z) l.ex q⟩
  refine ⟨F, ρ, h, S, R, he.mo _ _ _ _ _ _ (fun d h1 z => ?_) (fun _ _ z => z) q⟩
  intro F1 H1 v e1 S1 _
  exact z F1 H1 σ e1 S1 (R.ext e1)
theorem as_ret (he : AE X E e wa) : AS X E (.Return (some e) pos) (wRet wa) :=
  ⟨PS.imp (ps_ret he.run) fun D σ H ⟨F, ρ, h, S, R, q⟩ => ⟨F, ρ, h, S, R, q⟩, fun D D' ρ h l q => he.mo _ _ _ _ _ _ l.rt l.ex q⟩
theorem as_if {c : Expr} {A B : List Stmt} (hc : AT X E c ta) (ha : ASs X E A s1) (hb : ASs X E B s2) : AS X E (.If c A B pos) (wIfS ta s1 s2) := by
  refine ⟨PS.imp (ps_if hc.run ha.run hb.run) fun D σ H ⟨F, ρ, h, S, R, q⟩ => ?_, fun D D' ρ h l q => hc.mo _ _ _ _ _ _ (fun c h1 q1 => ?_) l.ex q⟩
  · refine ⟨F, ρ, h, S, R, hc.mo _ _ _ _ _ _ (fun x h1 hx => ?_) (fun _ _ z => z) q⟩
    intro F1 H1 e1 S1
    split at hx
    · rename_i e; rw [if_pos e]; exact ⟨F1, ρ, h1, S1, R.ext e1, ha.mo _ _ _ _ (LD.ext e1) hx⟩
    · rename_i e; rw [if_neg e]; exact ⟨F1, ρ, h1, S1, R.ext e1, hb.mo _ _ _ _ (LD.ext e1) hx⟩
  · split at q1
    · rename_i e; rw [if_pos e]; exact ha.mo _ _ _ _ l q1
    · rename_i e; rw [if_neg e]; exact hb.mo _ _ _ _ l q1
/-! ### targets -/
theorem ag_name (i : Nat) {x : Str} (hN : X.N.Nodup) (hi : X.N[i]? = some x := by rfl) (hx : Loc X.env.scope x := by first | exact Or.inl rfl | exact Or.inr rfl) (hf : X.fn x = true ∨ X.env.scope.names.lookup x = some .local := by first | exact .inl rfl | exact .inr rfl) : AG X E (.Name x pos) (gN i) := by
  refine ⟨PG.imp (pg_name hN hi hx hf) fun v σ H Q ⟨F, ρ, h, d, S, R, r, q⟩ => q F H _ (.refl F) S (R.set r i), fun d ρ h Q Q' X X' hq _ q => hq _ _ q⟩
theorem ags_nil : AGs X E [] gsNil := by
  refine ⟨PGs.imp pgs_nil fun v σ H Q ⟨F, ρ, h, d, S, R, r, q⟩ => ?_, fun d ρ h Q Q' X X' hq _ q => ⟨q.1, hq _ _ q.2⟩⟩
  obtain ⟨rfl, q⟩ := q
  cases r
  exact ⟨rfl, q F H _ (.refl F) S R⟩
theorem ags_cons {g : WG} {gr : WGs} (h1 : AG X E e g) (h2 : AGs X E es gr) (hs : (assignEach (e :: es) X.env).map (·.2) = assign e X.env :: (assignEach es X.env).map (·.2) := by rfl) : AGs X E (e :: es) (gsCons g gr) := by
  refine ⟨PGs.imp (pgs_cons h1.run h2.run hs) fun v σ H Q ⟨F, ρ, h, d, S, R, r, q⟩ => ?_, fun d ρ h Q Q' X X' hq hx q => ?_⟩
  · obtain ⟨x, xs, rfl, q⟩ := q
    cases r with
    | cons r rr =>
      refine ⟨_, _, rfl, F, ρ, h, x, S, R, r, h1.mo _ _ _ _ _ _ _ (fun ρ1 g1 z => ?_) (fun _ _ z => z) q⟩
      intro F1 H1 σ1 e1 S1 R1
      exact ⟨F1, ρ1, g1, xs, S1, R1, rr.ext e1, h2.mo _ _ _ _ _ _ _ (fun _ _ z => LS.ext e1 z) (fun _ _ z => LX.ext e1 z) z⟩
  · obtain ⟨x, xs, e, q⟩ := q
    exact ⟨x, xs, e, h1.mo _ _ _ _ _ _ _ (fun ρ1 g1 z => h2.mo _ _ _ _ _ _ _ hq hx z) hx q⟩
theorem ag_tup {k2 n : Nat} {gr : WGs} (hc : X.calm = true) (h : AGs X E es gr) (hn : (assignEach es X.env).length = n := by rfl) (hst : (assignEach es X.env).findIdx? (·.1) = none := by rfl) : AG X E (.Tuple es k2 pos) (gT n gr) := by
  refine ⟨PG.imp (pg_tup hc h.run hn hst) fun v σ H Q ⟨F, ρ, g, d, S, R, r, q⟩ => ?_, fun d ρ g Q Q' X X' hq hx q => ?_⟩
  · obtain ⟨xs, rfl, l, q⟩ := q
    cases r with
    | @tup a _ vs hs rs => exact ⟨a, vs, rfl, sqt_of S.fz hs, by rw [← rs.length]; exact l, F, ρ, g, xs, S, R, rs, q⟩
  · obtain ⟨xs, e, l, q⟩ := q
    exact ⟨xs, e, l, h.mo _ _ _ _ _ _ _ hq hx q⟩
theorem mo_asg {g : WG} (h1 : MoE wa) (h2 : MoG g) : MoS (wAsg wa g) := fun D D' ρ h l q => h1 _ _ _ _ _ _ (fun x h1 z => h2 _ _ _ _ _ _ _ l.nx l.ex z) l.ex q
theorem to_asg {g : WG} (he : AE X E e wa) (hg : AG X E a g) {D : Ends} {σ : L2.St} {H : Hp} (q : tS X.K E (wAsg wa g) D σ H) : tAsg (tE X.K E wa) (tG X.K E g) D σ H := by
  obtain ⟨F, ρ, h, S, R, q⟩ := q
  refine ⟨F, ρ, h, S, R, he.mo _ _ _ _ _ _ (fun x h1 z => ?_) (fun _ _ z => z) q⟩
  intro F1 H1 v e1 S1 r
  exact ⟨F1, ρ, h1, x, S1, R.ext e1, r, hg.mo _ _ _ _ _ _ _ (fun _ _ z => LS.ext e1 z) (fun _ _ z => LX.ext e1 z) z⟩
theorem as_asg {tg : Expr} {g : WG} (he : AE X E e wa) (hg : AG X E tg g) (hs : swapsWithSole [tg] e pos.line X.env = pure false := by rfl) (hw : swappedStores [tg] e X.env = pure none := by rfl)
    (h1 : (assignEach [tg] X.env).map (·.2) = [assign tg X.env] := by rfl) : AS X E (.Assign [tg] e pos) (wAsg wa g) :=
  ⟨PS.imp (ps_asg he.run hg.run hs hw h1) fun D σ H q => to_asg he hg q, mo_asg he.mo hg.mo⟩
/-- name = value -/
theorem as_set (i : Nat) {x : Str} {pos' : Pos} (hN : X.N.Nodup) (he : AE X E e wa) (hi : X.N[i]? = some x := by rfl) (hx : Loc X.env.scope x := by first | exact Or.inl rfl | exact Or.inr rfl) (hs : swapsWith e (some (.Name x pos')) pos.line X.env = pure false := by rfl)
    (hf : X.fn x = true ∨ X.env.scope.names.lookup x = some .local := by first | exact .inl rfl | exact .inr rfl) : AS X E (.Assign [.Name x pos'] e pos) (wAsg wa (gN i)) := by
  have ag : AG X E (.Name x pos') (gN i) := ag_name i hN hi hx hf
  refine ⟨PS.imp (ps_set hN hi hx he.run hs hf) fun D σ H q => ?_, mo_asg he.mo ag.mo⟩
  obtain ⟨F, ρ, h, S, R, q⟩ := q
  refine ⟨F, ρ, h, S, R, he.mo _ _ _ _ _ _ (fun x h1 z => ?_) (fun _ _ z => z) q⟩
  intro F1 H1 v e1 S1 r
  exact z F1 H1 _ e1 S1 ((R.ext e1).set r i)
theorem as_par (i j : Nat) {x y : Str} {px py pt : Pos} {kt k2 pt2} (c : Cg gz X E k) (hij : i ≠ j) (ha : AA X E [a, b] wl)
    (hi : X.N[i]? = some x := by rfl) (hj : X.N[j]? = some y := by rfl)
    (hx : X.env.scope.names.lookup x = some .local := by rfl) (hy : X.env.scope.names.lookup y = some .local := by rfl)
    (hw : swappedStores [.Tuple [.Name x px, .Name y py] kt pt] (.Tuple [a, b] k2 pt2) X.env = pure (some [x, y]) := by rfl)
    (hs : swapsWithSole [.Tuple [.Name x px, .Name y py] kt pt] (.Tuple [a, b] k2 pt2) pos.line X.env = pure false := by rfl) :
    AS X E (.Assign [.Tuple [.Name x px, .Name y py] kt pt] (.Tuple [a, b] k2 pt2) pos) (wPar i j wl) := by
  refine ⟨PS.imp (ps_par c.calm c.nd hi hj hij hx hy ha.run hw hs) fun D σ H ⟨F, ρ, h, S, R, q⟩ => ?_, fun D D' ρ h l q => ha.mo _ _ _ _ _ _ (fun ds h1 ⟨x, y, e, z⟩ => ⟨x, y, e, l.nx _ _ z⟩) l.ex q⟩
  refine ⟨F, ρ, h, S, R, ha.mo _ _ _ _ _ _ (fun ds h1 z => ?_) (fun _ _ z => z) q⟩
  intro F1 H1 vs e1 S1 rs
  obtain ⟨x, y, rfl, z⟩ := z
  cases rs with
  | cons r1 rs =>
    cases rs with
    | cons r2 rs =>
      cases rs
      exact ⟨_, _, rfl, z F1 H1 _ e1 S1 (((R.ext e1).set r1 i).set r2 j)⟩
end
/-! ### while -/
def wWhile (c : WT) (tb : WS) : WS := fun D ρ h => ∃ W : Nat → EnvD → AH → Prop, (∃ m, W m ρ h) ∧ ∀ m ρ h, W m ρ h →
  c ρ h (fun b h1 => if b = true then tb { D with nx := fun ρ' h' => ∃ m', m' < m ∧ W m' ρ' h', ct := fun ρ' h' => ∃ m', m' < m ∧ W m' ρ' h', bk := D.nx } ρ h1 else D.nx ρ h1) D.ex
section
variable {X : Cx} {E : XK} {k : Nat} {e : Expr} {ta : WT} {pos : Pos} {body : List Stmt} {tb : WS}
theorem as_while (c : Cg gz X E k) (hc : AT X E e ta) (hb : ASs X E body tb) : AS X E (.While e body [] pos) (wWhile ta tb) := by
  refine ⟨PS.imp (ps_while c.po hc.run hb.run) fun D σ H ⟨F, ρ, h, S, R, q⟩ => ?_, fun D D' ρ h l q => ?_⟩
  · obtain ⟨W, ⟨m0, w0⟩, turn⟩ := q
    refine ⟨fun m σ H => ∃ F1 ρ1 h1, Ext F F1 ∧ Sim X.K F1 h1 H ∧ EnvR X.K F1 ρ1 σ ∧ W m ρ1 h1, ⟨m0, F, ρ, h, .refl F, S, R, w0⟩, ?_⟩
    rintro m σ1 H1 ⟨F1, ρ1, h1, e1, S1, R1, w1⟩
    refine ⟨F1, ρ1, h1, S1, R1, hc.mo _ _ _ _ _ _ (fun b h2 z => ?_) (fun _ _ z => LX.ext e1 z) (turn m ρ1 h1 w1)⟩
    intro F2 H2 e2 S2
    have e12 := e1.trans e2
    split at z
    · rename_i cb
      rw [if_pos cb]
      refine ⟨fun σ' H' => ∃ F3 ρ3 h3 m', m' < m ∧ Ext F F3 ∧ Sim X.K F3 h3 H' ∧ EnvR X.K F3 ρ3 σ' ∧ W m' ρ3 h3, fun σ' H' ⟨F3, ρ3, h3, m', lt, e3, S3, R3, w3⟩ => ⟨m', lt, F3, ρ3, h3, e3, S3, R3, w3⟩, F2, ρ1, h2, S2, R1.ext e2, hb.mo _ _ _ _ ?_ z⟩
      refine ⟨fun ρ4 h4 z4 F4 H4 σ4 e4 S4 R4 => ?_, fun _ _ z => LQ.ext e12 z, fun ρ4 h4 z4 => LS.ext e12 z4, fun ρ4 h4 z4 F4 H4 σ4 e4 S4 R4 => ?_, fun _ _ z => LX.ext e12 z⟩
      · obtain ⟨m', lt, w⟩ := z4
        exact ⟨F4, ρ4, h4, m', lt, e12.trans e4, S4, R4, w⟩
      · obtain ⟨m', lt, w⟩ := z4
        exact ⟨F4, ρ4, h4, m', lt, e12.trans e4, S4, R4, w⟩
    · rename_i cb
      rw [if_neg cb]
      exact z F2 H2 σ1 e12 S2 (R1.ext e2)
  · obtain ⟨W, w0, turn⟩ := q
    refine ⟨W, w0, fun m ρ h w => hc.mo _ _ _ _ _ _ (fun b h1 z => ?_) l.ex (turn m ρ h w)⟩
    split at z
    · rename_i cb; rw [if_pos cb]
      exact hb.mo { D with nx := fun ρ' h' => ∃ m', m' < m ∧ W m' ρ' h', ct := fun ρ' h' => ∃ m', m' < m ∧ W m' ρ' h', bk := D.nx } _ _ _ ⟨fun _ _ z => z, l.rt, fun _ _ z => l.nx _ _ z, fun _ _ z => z, l.ex⟩ z
    · rename_i cb; rw [if_neg cb]; exact l.nx _ _ z
end
/-! ### what is walked -/
structure ItD (K : PySem.W.Frag) (F : Hp) (J : It) (xs : List D) (st : AH → Prop) : Prop where
  go : ∀ {i F' h H}, Ext F F' → Sim K F' h H → st h → i < xs.length → J.go i H
  stop : ∀ {i F' h H}, Ext F F' → Sim K F' h H → st h → xs.length = i → J.stop i H
  yld : ∀ {i F' h H x H' d}, Ext F F' → Sim K F' h H → st h → J.yld i H x H' → xs[i]? = some d → ∃ F'', Ext F' F'' ∧ Sim K F'' h H' ∧ Rep K F'' d x
abbrev WI := EnvD → AH → (List D → (AH → Prop) → AH → Prop) → KX → Prop
def MoI (w : WI) : Prop := ∀ ρ h Q Q' X X', (∀ xs st h, Q xs st h → Q' xs st h) → (∀ x h, X x h → X' x h) → w ρ h Q X → w ρ h Q' X'
def LI (K : PySem.W.Frag) (F : Hp) (R : It → Hp → Prop) : List D → (AH → Prop) → AH → Prop := fun xs st h => ∀ F' H' J, Ext F F' → Sim K F' h H' → ItD K F' J xs st → R J H'
def tI (K : PySem.W.Frag) (E : XK) (w : WI) : TI := fun σ H R => ∃ F ρ h, Sim K F h H ∧ EnvR K F ρ σ ∧ w ρ h (LI K F R) (LX K F E)
structure AI (X : Cx) (E : XK) (tg iter : Expr) (w : WI) : Prop where
  run : PI X tg iter (tI X.K E w)
  mo : MoI w
theorem PI.imp {X : Cx} {tg e : Expr} {t t' : TI} (p : PI X tg e t) (h : ∀ σ H Q, t' σ H Q → t σ H Q) : PI X tg e t' := ⟨fun pins s σ H Q I q => p.run pins s σ H Q I (h _ _ _ q)⟩
def loopD (st : AH → Prop) (g : WG) (tb : WS) (Z : EndsD) : List D → EnvD → AH → Prop
  | [], ρ, h => st h ∧ Z.nx ρ h
  | x :: r, ρ, h => st h ∧ g x ρ h (fun ρ2 h2 => tb { Z with nx := loopD st g tb Z r, ct := loopD st g tb Z r, bk := Z.nx } ρ2 h2) Z.ex
def wFor (wi : WI) (g : WG) (tb : WS) : WS := fun D ρ h => wi ρ h (fun xs st h1 => loopD st g tb D xs ρ h1) D.ex
theorem loopD_mo {st : AH → Prop} {g : WG} {tb : WS} (mg : MoG g) (mb : MoS tb) {Z Z' : EndsD} (l : Z.Le Z') : ∀ (xs : List D) (ρ : EnvD) (h : AH), loopD st g tb Z xs ρ h → loopD st g tb Z' xs ρ h
  | [], ρ, h, q => ⟨q.1, l.nx _ _ q.2⟩
  | x :: r, ρ, h, q => ⟨q.1, mg _ _ _ _ _ _ _ (fun ρ2 h2 z => mb { Z with nx := loopD st g tb Z r, ct := loopD st g tb Z r, bk := Z.nx } _ _ _ ⟨fun _ _ z => loopD_mo mg mb l r _ _ z, l.rt, fun _ _ z => l.nx _ _ z, fun _ _ z => loopD_mo mg mb l r _ _ z, l.ex⟩ z) l.ex q.2⟩
section
variable {X : Cx} {E : XK} {k : Nat} {e tg iter : Expr} {pos : Pos} {body : List Stmt} {tb : WS} {wi : WI} {g : WG}
theorem as_for (c : Cg gz X E k) (hi : AI X E tg iter wi) (hg : AG X E tg g) (hb : ASs X E body tb) (hs : ∀ x, foldedSetIterable iter X.env x = pure x := by intro _; rfl) : AS X E (.For tg iter body [] pos) (wFor wi g tb) := by
  refine ⟨PS.imp (ps_for c.po c.calm hi.run hg.run hb.run hs) fun D σ H ⟨F, ρ, h, S, R, q⟩ => ?_, fun D D' ρ h l q => hi.mo _ _ _ _ _ _ (fun xs st h z => loopD_mo hg.mo hb.mo l _ _ _ z) l.ex q⟩
  refine ⟨F, ρ, h, S, R, hi.mo _ _ _ _ _ _ (fun xs st h1 z => ?_) (fun _ _ z => z) q⟩
  intro F1 H1 J e1 S1 it
  refine ⟨fun i m σ H => m = xs.length - i ∧ i ≤ xs.length ∧ ∃ F2 ρ2 h2, Ext F1 F2 ∧ Sim X.K F2 h2 H ∧ EnvR X.K F2 ρ2 σ ∧ loopD st g tb (LD X.K F D E) (xs.drop i) ρ2 h2, ⟨xs.length, by simp, Nat.zero_le _, F1, ρ, h1, .refl _, S1, R.ext e1, by simpa using z⟩, ?_⟩
  rintro i m σ2 H2 ⟨rfl, hi2, F2, ρ2, h2, e2, S2, R2, z2⟩
  by_cases lt : i < xs.length
  · rw [List.drop_eq_getElem_cons lt] at z2
    obtain ⟨hst, z2⟩ := z2
    refine .inr ⟨it.go e2 S2 hst lt, fun σ' H' => ∃ F3 ρ3 h3, Ext F1 F3 ∧ Sim X.K F3 h3 H' ∧ EnvR X.K F3 ρ3 σ' ∧ loopD st g tb (LD X.K F D E) (xs.drop (i + 1)) ρ3 h3, fun σ' H' p => ⟨xs.length - (i + 1), by omega, rfl, lt, p⟩, fun x H' y => ?_⟩
    obtain ⟨F3, e3, S3, r3⟩ := it.yld e2 S2 hst y (List.getElem?_eq_getElem lt)
    have e13 := e1.trans (e2.trans e3)
    refine ⟨F3, ρ2, h2, _, S3, R2.ext e3, r3, hg.mo _ _ _ _ _ _ _ (fun ρ4 h4 z4 => ?_) (fun _ _ z => LX.ext e13 z) z2⟩
    intro F4 H4 σ4 e4 S4 R4
    have e14 := e13.trans e4
    refine ⟨F4, ρ4, h4, S4, R4, hb.mo _ _ _ _ ⟨fun ρ5 h5 z5 F5 H5 σ5 e5 S5 R5 => ⟨F5, ρ5, h5, (e2.trans e3).trans (e4.trans e5), S5, R5, z5⟩, fun _ _ z => LQ.ext e14 z, fun _ _ z => LS.ext e14 z, fun ρ5 h5 z5 F5 H5 σ5 e5 S5 R5 => ⟨F5, ρ5, h5, (e2.trans e3).trans (e4.trans e5), S5, R5, z5⟩, fun _ _ z => LX.ext e14 z⟩ z4⟩
  · have e : i = xs.length := by omega
    subst e
    rw [List.drop_length] at z2
    exact .inl ⟨it.stop e2 S2 z2.1 rfl, z2.2 F2 H2 σ2 (e1.trans e2) S2 R2⟩
/-! sources -/
def iSeq (wa : WE) : WI := fun ρ h R X => wa ρ h (fun x h1 => match x with
  | .lst xs => R xs (fun _ => True) h1
  | .ref a => ∃ xs, h1 a = some (.lst xs) ∧ R xs (fun h => h a = some (.lst xs)) h1
  | _ => False) X
def iTupD (wa : WE) : WI := fun ρ h R X => wa ρ h (fun x h1 => match x with
  | .tup xs => R xs (fun _ => True) h1
  | .tpl xs => R xs (fun _ => True) h1
  | _ => False) X
def intsD (lo : Int) (n : Nat) : List D := (List.range n).map fun i => D.int (lo + (i : Nat))
def iRng1 (wl : WA) : WI := fun ρ h R X => wl ρ h (fun ds h1 => match ds with
  | [.int j] => -(2 ^ 62) ≤ j ∧ j < 2 ^ 62 ∧ R (intsD 0 j.toNat) (fun _ => True) h1
  | _ => False) X
def iRng2 (wl : WA) : WI := fun ρ h R X => wl ρ h (fun ds h1 => match ds with
  | [.int i, .int j] => (-(2 ^ 62) ≤ i ∧ i < 2 ^ 62 ∧ -(2 ^ 62) ≤ j ∧ j < 2 ^ 62) ∧ R (intsD i (j - i).toNat) (fun _ => True) h1
  | _ => False) X
theorem ItD.list {K : PySem.W.Frag} {F : Hp} {a : Addr} {xs : List D} {st : AH → Prop} (h : ∀ {F' h H}, Ext F F' → Sim K F' h H → st h → ∃ vs, SqL K H a vs ∧ Reps K F' xs vs) : ItD K F (Itl K a) xs st where
  go := fun {i F' h0 H} e S s l => by
    obtain ⟨vs, q, r⟩ := h e S s
    obtain ⟨v, hv, _⟩ := r.get (List.getElem?_eq_getElem l)
    exact ⟨vs, v, q, hv⟩
  stop := fun {i F' h0 H} e S s l => by
    obtain ⟨vs, q, r⟩ := h e S s
    exact ⟨vs, q, by rw [← r.length]; exact Nat.le_of_eq l⟩
  yld := fun {i F' h0 H x H' d} e S s y hd => by
    obtain ⟨rfl, y⟩ := y
    obtain ⟨vs, q, r⟩ := h e S s
    obtain ⟨v, hv, rv⟩ := r.get hd
    have := y vs q
    rw [hv] at this; cases this
    exact ⟨F', .refl _, S, rv⟩
theorem ItD.tup {K : PySem.W.Frag} {F : Hp} {a : Addr} {xs : List D} {vs : List V} (q : SqT K F a vs) (r : Reps K F xs vs) : ItD K F (Itt K a) xs (fun _ => True) where
  go := fun {i F' h0 H} e S s l => by
    obtain ⟨v, hv, _⟩ := r.get (List.getElem?_eq_getElem l)
    exact ⟨vs, v, sqt_of S.fz (e.sqt q), hv⟩
  stop := fun {i F' h0 H} e S s l => ⟨vs, sqt_of S.fz (e.sqt q), by rw [← r.length]; exact Nat.le_of_eq l⟩
  yld := fun {i F' h0 H x H' d} e S s y hd => by
    obtain ⟨rfl, y⟩ := y
    obtain ⟨v, hv, rv⟩ := r.get hd
    have := y vs (sqt_of S.fz (e.sqt q))
    rw [hv] at this; cases this
    exact ⟨F', .refl _, S, rv.ext e⟩
theorem intsD_len {lo : Int} {n : Nat} : (intsD lo n).length = n := by simp [intsD]
theorem intsD_get {lo : Int} {n i : Nat} {d : D} (h : (intsD lo n)[i]? = some d) : d = .int (lo + (i : Nat)) ∧ i < n := by
  unfold intsD at h
  rw [List.getElem?_map] at h
  by_cases c : i < n
  · rw [List.getElem?_range c] at h
    cases h; exact ⟨rfl, c⟩
  · rw [List.getElem?_eq_none (by simpa using c)] at h; cases h
theorem ItD.rng {K : PySem.W.Frag} {F : Hp} {lo : Int} {n : Nat} : ItD K F (Itr lo n) (intsD lo n) (fun _ => True) where
  go := fun {i F' h0 H} e S s l => by rw [intsD_len] at l; exact l
  stop := fun {i F' h0 H} e S s l => by rw [intsD_len] at l; exact Nat.le_of_eq l
  yld := fun {i F' h0 H x H' d} e S s y hd => by
    obtain ⟨rfl, rfl⟩ := y
    obtain ⟨rfl, _⟩ := intsD_get hd
    exact ⟨F', .refl _, S, .int _⟩
variable {wa : WE} {wl : WA} {es : List Expr} {p : Pos}
theorem ai_list {l : Expr} (hl : AE X E l wa) : AI X E tg l (iSeq wa) := by
  refine ⟨PI.imp (pi_list hl.run) fun σ H R ⟨F, ρ, g, S, Rr, q⟩ => ?_, fun ρ h Q Q' X X' hq hx q => hl.mo _ _ _ _ _ _ (fun x h1 z => ?_) hx q⟩
  · refine ⟨F, ρ, g, S, Rr, hl.mo _ _ _ _ _ _ (fun x h1 z => ?_) (fun _ _ z => z) q⟩
    intro F1 H1 v e1 S1 r
    split at z
    · cases r with
      | @lst a xs vs hf rs =>
        exact ⟨a, rfl, ⟨vs, .of (S1.fz _ _ hf)⟩, z F1 H1 _ e1 S1 (ItD.list fun {F' h0 H0} e S _ => ⟨vs, .of (S.fz _ _ (e _ _ hf)), rs.ext e⟩)⟩
    · rename_i a
      obtain ⟨xs, hx, z⟩ := z
      cases r
      obtain ⟨_, u, hu, vs, rfl, rs⟩ := S1.ob _ _ hx
      refine ⟨a, rfl, ⟨vs, .of hu⟩, z F1 H1 _ e1 S1 (ItD.list fun {F' h0 H0} e S st => ?_)⟩
      obtain ⟨_, u', hu', vs', rfl, rs'⟩ := S.ob _ _ st
      exact ⟨vs', .of hu', rs'⟩
    · exact z.elim
  · split at z
    · exact hq _ _ _ z
    · obtain ⟨xs, hx, z⟩ := z
      exact ⟨xs, hx, hq _ _ _ z⟩
    · exact z.elim
theorem ai_tup {l : Expr} (hl : AE X E l wa) : AI X E tg l (iTupD wa) := by
  refine ⟨PI.imp (pi_tup hl.run) fun σ H R ⟨F, ρ, g, S, Rr, q⟩ => ?_, fun ρ h Q Q' X X' hq hx q => hl.mo _ _ _ _ _ _ (fun x h1 z => ?_) hx q⟩
  · refine ⟨F, ρ, g, S, Rr, hl.mo _ _ _ _ _ _ (fun x h1 z => ?_) (fun _ _ z => z) q⟩
    intro F1 H1 v e1 S1 r
    split at z
    · cases r with
      | @tup a xs vs hf rs => exact ⟨a, rfl, ⟨vs, sqt_of S1.fz hf⟩, z F1 H1 _ e1 S1 (ItD.tup hf rs)⟩
    · cases r with
      | @tpl a ob xs vs hf hd rs => exact ⟨a, rfl, ⟨vs, sqt_of S1.fz (.inl (.inr ⟨_, hf⟩))⟩, z F1 H1 _ e1 S1 (ItD.tup (.inl (.inr ⟨_, hf⟩)) rs)⟩
    · exact z.elim
  · split at z
    · exact hq _ _ _ z
    · exact hq _ _ _ z
    · exact z.elim
theorem ai_rng1 {a : Expr} (hm : X.mg "range" = none) (ha : AA X E [a] wl) (hg : Gl X "range" := by rfl) (hs : starEach [a] X.env = [(false, eval a X.env)] := by rfl) : AI X E tg (.Call (.Name "range" p) [a] [] pos) (iRng1 wl) := by
  refine ⟨PI.imp (pi_range1 hg hm ha.run hs) fun σ H R ⟨F, ρ, g, S, Rr, q⟩ => ?_, fun ρ h Q Q' X X' hq hx q => ha.mo _ _ _ _ _ _ (fun ds h1 z => ?_) hx q⟩
  · refine ⟨F, ρ, g, S, Rr, ha.mo _ _ _ _ _ _ (fun ds h1 z => ?_) (fun _ _ z => z) q⟩
    intro F1 H1 vs e1 S1 rs
    split at z
    · cases rs with
      | cons r rs => cases rs; cases r; exact ⟨_, rfl, z.1, z.2.1, z.2.2 F1 H1 _ e1 S1 ItD.rng⟩
    · exact z.elim
  · split at z
    · exact ⟨z.1, z.2.1, hq _ _ _ z.2.2⟩
    · exact z.elim
end
end DL
namespace DL
open PySem PySem.Spec L2
def wipeD (ρ : EnvD) : List Nat → EnvD
  | [] => ρ
  | v :: vs => (wipeD ρ vs).set v none
theorem EnvR.wipe {K : PySem.W.Frag} {F : Hp} {ρ : EnvD} {σ : L2.St} (r : EnvR K F ρ σ) : ∀ vs : List Nat, EnvR K F (wipeD ρ vs) (L2.wipe σ vs)
  | [] => r
  | v :: vs => by
    have ih := EnvR.wipe r vs
    refine ⟨by simp [wipeD, L2.wipe, ih.1], fun i d e => ?_⟩
    show ∃ x, ((L2.wipe σ vs).set v none)[i]? = some (some x) ∧ _
    have e : ((wipeD ρ vs).set v none)[i]? = some (some d) := e
    by_cases c : v = i
    · subst c
      by_cases l : v < (wipeD ρ vs).length
      · rw [List.getElem?_set_self l] at e; cases e
      · rw [List.getElem?_eq_none (by simpa using l)] at e; cases e
    · rw [List.getElem?_set_ne c] at e ⊢
      exact ih.2 i d e
def rm (h : AH) (p : Addr) : AH := fun b => if b = p then none else h b
@[simp] theorem rm_up {h : AH} {p : Addr} {o : AO} : rm (up h p o) p = rm h p := by funext b; unfold rm up; split <;> rfl
theorem rm_none {h : AH} {p : Addr} (e : h p = none) : rm h p = h := by
  funext b; unfold rm; split
  · rename_i c; rw [c, e]
  · rfl
theorem rm_sub {h : AH} {p : Addr} : Sub (rm h p) h := fun a o e => by
  unfold rm at e; split at e
  · cases e
  · exact e
theorem rm_same {h : AH} {p : Addr} : rm h p p = none := by simp [rm]
/-- a target of a comprehension: names alone -/
structure GW (K : PySem.W.Frag) (vs : List Nat) (g : WG) (gv : TG) : Prop where
  to : ∀ {F h H d v ρ σ} {QD : EnvD → AH → Prop} {Q : L2.St → Hp → Prop}, Sim K F h H → Rep K F d v → EnvR K F ρ σ → g d ρ h QD (fun _ _ => False) →
    (∀ ρ2 σ2, EnvR K F ρ2 σ2 → QD ρ2 h → L2.wipe σ2 vs = L2.wipe σ vs → Q σ2 H) → gv v σ H Q
  mo : MoG g
theorem wipe_set {σ : L2.St} {i : Nat} {x : Option V} : ∀ {vs : List Nat}, i ∈ vs → L2.wipe (σ.set i x) vs = L2.wipe σ vs
  | v :: vs, h => by
    show (L2.wipe (σ.set i x) vs).set v none = (L2.wipe σ vs).set v none
    by_cases c : i ∈ vs
    · rw [wipe_set c]
    · have e : v = i := by rcases List.mem_cons.mp h with e | e; exact e.symm; exact absurd e c
      subst e
      have : ∀ {ws : List Nat}, L2.wipe (σ.set v x) ws = (L2.wipe σ ws).set v (if v ∈ ws then none else x) ∨ True := fun {ws} => .inr trivial
      apply List.ext_getElem?
      intro j
      by_cases ej : v = j
      · subst ej
        by_cases l : v < σ.length
        · rw [List.getElem?_set_self (by rw [L2.wipe_length, List.length_set]; exact l), List.getElem?_set_self (by rw [L2.wipe_length]; exact l)]
        · rw [List.getElem?_eq_none (by simp [L2.wipe_length]; omega), List.getElem?_eq_none (by simp [L2.wipe_length]; omega)]
      · rw [List.getElem?_set_ne ej, List.getElem?_set_ne ej]
        have q : ∀ (ws : List Nat) (a b : L2.St), (a.length = b.length) → (∀ j, v ≠ j → a[j]? = b[j]?) → ∀ j, v ≠ j → (L2.wipe a ws)[j]? = (L2.wipe b ws)[j]? := by
          intro ws
          induction ws with
          | nil => intro a b _ h j hj; exact h j hj
          | cons w ws ih =>
            intro a b hl h j hj
            show ((L2.wipe a ws).set w none)[j]? = ((L2.wipe b ws).set w none)[j]?
            by_cases c : w = j
            · subst c
              by_cases l : w < a.length
              · rw [List.getElem?_set_self (by rw [L2.wipe_length]; exact l), List.getElem?_set_self (by rw [L2.wipe_length, ← hl]; exact l)]
              · rw [List.getElem?_eq_none (by simp [L2.wipe_length]; omega), List.getElem?_eq_none (by simp [L2.wipe_length]; omega)]
            · rw [List.getElem?_set_ne c, List.getElem?_set_ne c]
              exact ih a b hl h j hj
        exact q vs _ _ (by simp) (fun j hj => by rw [List.getElem?_set_ne hj]) j ej
theorem gw_name {K : PySem.W.Frag} {vs : List Nat} {i : Nat} (hi : i ∈ vs) : GW K vs (gN i) (gName i) :=
  ⟨fun {F h H d v ρ σ QD Q} S r R q k => k _ _ (R.set r i) q (wipe_set hi), fun d ρ h Q Q' X X' hq _ q => hq _ _ q⟩
/-- i, j, .. : the names of a tuple target -/
def gsN : List Nat → WGs
  | [] => gsNil
  | i :: is => gsCons (gN i) (gsN is)
def gvN : List Nat → TGs
  | [] => L2.gNil
  | i :: is => L2.gCons (gName i) (gvN is)
theorem gw_names {K : PySem.W.Frag} {vs : List Nat} : ∀ {is : List Nat}, (∀ i ∈ is, i ∈ vs) → ∀ {F h H ds us ρ σ} {QD : EnvD → AH → Prop} {Q : L2.St → Hp → Prop}, Sim K F h H → Reps K F ds us → EnvR K F ρ σ → gsN is ds ρ h QD (fun _ _ => False) →
    (∀ ρ2 σ2, EnvR K F ρ2 σ2 → QD ρ2 h → L2.wipe σ2 vs = L2.wipe σ vs → Q σ2 H) → gvN is us σ H Q
  | [], _, F, h, H, ds, us, ρ, σ, QD, Q, S, r, R, q, k => by
    obtain ⟨rfl, q⟩ := q
    cases r
    exact ⟨rfl, k ρ σ R q rfl⟩
  | i :: is, hi, F, h, H, ds, us, ρ, σ, QD, Q, S, r, R, q, k => by
    obtain ⟨d, ds', rfl, q⟩ := q
    cases r with
    | cons r rr =>
      refine ⟨_, _, rfl, ?_⟩
      refine gw_names (is := is) (fun j hj => hi j (List.mem_cons_of_mem _ hj)) S rr (R.set r i) q fun ρ2 σ2 R2 q2 e2 => k ρ2 σ2 R2 q2 (e2.trans (wipe_set (hi i (List.mem_cons_self ..))))
theorem mo_gsN : ∀ is : List Nat, MoGs (gsN is)
  | [] => fun d ρ h Q Q' X X' hq _ q => ⟨q.1, hq _ _ q.2⟩
  | i :: is => fun d ρ h Q Q' X X' hq hx ⟨x, xs, e, q⟩ => ⟨x, xs, e, mo_gsN is _ _ _ _ _ _ _ hq hx q⟩
theorem mo_gT {n : Nat} {r : WGs} (m : MoGs r) : MoG (gT n r) := fun d ρ h Q Q' X X' hq hx ⟨xs, e, l, q⟩ => ⟨xs, e, l, m _ _ _ _ _ _ _ hq hx q⟩
theorem gw_tup {K : PySem.W.Frag} {vs : List Nat} {is : List Nat} (hi : ∀ i ∈ is, i ∈ vs) : GW K vs (gT is.length (gsN is)) (gTup K is.length (gvN is)) := by
  refine ⟨fun {F h H d v ρ σ QD Q} S r R q k => ?_, mo_gT (mo_gsN is)⟩
  obtain ⟨xs, rfl, l, q⟩ := q
  cases r with
  | @tup a _ us hs rs => exact ⟨a, us, rfl, sqt_of S.fz hs, by rw [← rs.length]; exact l, gw_names hi S rs R q k⟩
def compD (st : AH → Prop) (g : WG) (tt : WT) (te : WE) (vs : List Nat) (ρ : EnvD) (p : Addr) : List D → AH → (AH → Prop) → Prop
  | [], h, Q => st h ∧ Q h
  | x :: r, h, Q => st h ∧ g x (wipeD ρ vs) h (fun ρ2 h2 => tt ρ2 h2 (fun b h3 => if b = true then te ρ2 h3 (fun y h4 => ∃ acc, h4 p = some (.lst acc) ∧ acc.length < sizeLine ∧ compD st g tt te vs ρ p r (up h4 p (.lst (acc ++ [y]))) Q) (fun _ _ => False) else compD st g tt te vs ρ p r h3 Q) (fun _ _ => False)) (fun _ _ => False)
/-- what becomes of the list that a comprehension made -/
def endL (m : Bool) (p : Addr) (Q : KD) : AH → Prop := fun h => ∃ acc, h p = some (.lst acc) ∧ if m = true then Q (.ref p) h else Q (.lst acc) (rm h p)
def wLc (m : Bool) (wi : WI) (g : WG) (tt : WT) (te : WE) (vs : List Nat) : WE := fun ρ h Q X => wi ρ h (fun xs st h1 => ∀ p, h1 p = none → compD st g tt te vs ρ p xs (up h1 p (.lst [])) (endL m p Q)) X
def wYes : WT := fun _ h Q _ => Q true h
theorem mo_yes : MoT wYes := fun ρ h Q Q' X X' hq _ q => hq _ _ q
theorem compD_mo {st : AH → Prop} {g : WG} {tt : WT} {te : WE} {vs : List Nat} {ρ : EnvD} {p : Addr} (mg : MoG g) (mt : MoT tt) (me : MoE te) {Q Q' : AH → Prop} (hq : ∀ h, Q h → Q' h) : ∀ (xs : List D) (h : AH), compD st g tt te vs ρ p xs h Q → compD st g tt te vs ρ p xs h Q'
  | [], h, q => ⟨q.1, hq _ q.2⟩
  | x :: r, h, q => ⟨q.1, mg _ _ _ _ _ _ _ (fun ρ2 h2 z => mt _ _ _ _ _ _ (fun b h3 z => by
      split at z
      · rename_i c; rw [if_pos c]; exact me _ _ _ _ _ _ (fun y h4 ⟨acc, e, l, z⟩ => ⟨acc, e, l, compD_mo mg mt me hq r _ z⟩) (fun _ _ z => z) z
      · rename_i c; rw [if_neg c]; exact compD_mo mg mt me hq r _ z) (fun _ _ z => z) z) (fun _ _ z => z) q.2⟩
theorem endL_mo {m : Bool} {p : Addr} {Q Q' : KD} (hq : ∀ d h, Q d h → Q' d h) : ∀ h, endL m p Q h → endL m p Q' h := fun h ⟨acc, e, z⟩ => ⟨acc, e, by
  split at z
  · rename_i c; rw [if_pos c]; exact hq _ _ z
  · rename_i c; rw [if_neg c]; exact hq _ _ z⟩
theorem endL_to {K : PySem.W.Frag} {F : Hp} {h : AH} {H : Hp} {m : Bool} {p : Addr} {Q : VK} (S : Sim K F h H) (q : endL m p (LQ K F Q) h) : Q (.ref p) H := by
  obtain ⟨acc, e, q⟩ := q
  split at q
  · exact q.at S (.ref p)
  · obtain ⟨f, u, hu, us, rfl, rs⟩ := S.ob _ _ e
    obtain ⟨e2, S2⟩ := S.frz e hu rm_same rm_sub
    exact q _ _ _ e2 S2 (.lst upd_same (rs.ext e2))
theorem mo_lc {m : Bool} {wi : WI} {g : WG} {tt : WT} {te : WE} {vs : List Nat} (mi : MoI wi) (mg : MoG g) (mt : MoT tt) (me : MoE te) : MoE (wLc m wi g tt te vs) := fun ρ h Q Q' X X' hq hx q =>
  mi _ _ _ _ _ _ (fun xs st h1 z p hp => compD_mo mg mt me (endL_mo hq) _ _ (z p hp)) hx q
/-- the tests of a clause -/
structure ATs (X : Cx) (E : XK) (ifs : List Expr) (w : WT) : Prop where
  run : PTs X ifs (tT X.K E w)
  mo : MoT w
theorem ats_nil {X : Cx} {E : XK} : ATs X E [] wYes := ⟨⟨fun pins s σ H Q I ⟨F, ρ, h, S, R, q⟩ => pts_nil.run pins s σ H Q I (q F H (.refl F) S)⟩, mo_yes⟩
theorem ats_one {X : Cx} {E : XK} {c : Expr} {w : WT} (h : AT X E c w) : ATs X E [c] w := ⟨pts_one h.run, h.mo⟩
section
variable {X : Cx} {E : XK} {k : Nat} {elt tg iter : Expr} {ifs : List Expr} {scope : Scope} {own : List (Str × Nat)} {pos : Pos} {wi : WI} {g : WG} {gv : TG} {tt : WT} {te : WE}
/-- the block of a comprehension: nothing is let out of it -/
abbrev Blk (X : Cx) (scope : Scope) (s : Shared) (H : Hp) (C : Addr) (cl : List (Str × Addr)) (fp : List Addr) : Cx := X.blk s H scope (compEnvC scope cl C X.env) fp
theorem cg_blk (c : Cg gz X E k) (s : Shared) (H : Hp) (C : Addr) (cl : List (Str × Addr)) (fp : List Addr) (po : PassesOwn (model X.prog X.w) X.A (compEnvC scope cl C X.env) (fun _ _ => False) := PassesOwn.never) : Cg gz (Blk X scope s H C cl fp) E0 k :=
  ⟨c.room, c.gd, c.calm, c.nd, passL, po⟩
theorem to_lc {m : Bool} (mi : MoI wi) (mg : MoG g) (mt : MoT tt) (me : MoE te) (gw : GW X.K (own.map (·.2)) g gv) {σ : L2.St} {H : Hp} {Q : VK} (h : tE X.K E (wLc m wi g tt te (own.map (·.2))) σ H Q) :
    tLc (tI X.K E wi) gv (tT X.K E0 tt) (tE X.K E0 te) (own.map (·.2)) σ H Q := by
  obtain ⟨F, ρ, h0, S, R, q⟩ := h
  refine ⟨F, ρ, h0, S, R, mi _ _ _ _ _ _ (fun xs st h1 z => ?_) (fun _ _ z => z) q⟩
  intro F1 H1 J e1 S1 it D hD
  obtain ⟨f1, g1⟩ := S1.free hD
  have z := z D g1
  refine ⟨fun i n H => n = xs.length - i ∧ i ≤ xs.length ∧ ∃ F2 h2, Ext F1 F2 ∧ Sim X.K F2 h2 H ∧ compD st g tt te (own.map (·.2)) ρ D (xs.drop i) h2 (endL m D (LQ X.K F2 Q)),
    ⟨xs.length, by simp, Nat.zero_le _, F1, _, .refl _, S1.newM hD (o := .lst []) ⟨[], rfl, .nil⟩, compD_mo mg mt me (endL_mo fun _ _ z => LQ.ext e1 z) _ _ (by simpa using z)⟩, ?_⟩
  rintro i n H2 ⟨rfl, hi, F2, h2, e2, S2, z2⟩
  by_cases lt : i < xs.length
  · rw [List.drop_eq_getElem_cons lt] at z2
    obtain ⟨hst, z2⟩ := z2
    refine .inr ⟨it.go e2 S2 hst lt, fun H' => ∃ F3 h3, Ext F1 F3 ∧ Sim X.K F3 h3 H' ∧ compD st g tt te (own.map (·.2)) ρ D (xs.drop (i + 1)) h3 (endL m D (LQ X.K F3 Q)), fun H' p => ⟨xs.length - (i + 1), by omega, rfl, lt, p⟩, fun x H' y => ?_⟩
    obtain ⟨F3, e3, S3, r3⟩ := it.yld e2 S2 hst y (List.getElem?_eq_getElem lt)
    have R3 := (R.ext (e1.trans (e2.trans e3))).wipe (own.map (·.2))
    refine gw.to S3 r3 R3 z2 fun ρ4 σ4 R4 z4 ew => ⟨?_, ?_⟩
    · rw [ew]
      have : ∀ vs : List Nat, L2.wipe (L2.wipe σ vs) vs = L2.wipe σ vs := by
        intro vs
        have key : ∀ (us vs : List Nat), (∀ u ∈ us, u ∈ vs) → L2.wipe (L2.wipe σ us) vs = L2.wipe σ vs := by
          intro us
          induction us with
          | nil => intro vs _; rfl
          | cons u us ih =>
            intro vs hu
            show L2.wipe ((L2.wipe σ us).set u none) vs = _
            rw [wipe_set (hu u (List.mem_cons_self ..)), ih vs fun w hw => hu w (List.mem_cons_of_mem _ hw)]
        exact key vs vs fun _ h => h
      rw [this]
    · refine ⟨F3, ρ4, h2, S3, R4, mt _ _ _ _ _ _ (fun b h5 z5 => ?_) (fun _ _ z => z.elim) z4⟩
      intro F5 H5 e5 S5
      split at z5
      · rename_i cb
        rw [if_pos cb]
        refine ⟨F5, ρ4, h5, S5, R4.ext e5, me _ _ _ _ _ _ (fun y h6 z6 => ?_) (fun _ _ z => z.elim) z5⟩
        intro F6 H6 v6 e6 S6 r6
        obtain ⟨acc, ea, la, z6⟩ := z6
        obtain ⟨fa, u, hu, us, rfl, rs⟩ := S6.ob _ _ ea
        exact ⟨us, hu, by rw [← rs.length]; exact la, F6, _, e2.trans (e3.trans (e5.trans e6)), S6.put ea (o := .lst (acc ++ [y])) ⟨_, rfl, rs.append (.cons r6 .nil)⟩, compD_mo mg mt me (endL_mo fun _ _ z => LQ.ext (e3.trans (e5.trans e6)) z) _ _ z6⟩
      · rename_i cb
        rw [if_neg cb]
        exact ⟨F5, _, e2.trans (e3.trans e5), S5, compD_mo mg mt me (endL_mo fun _ _ z => LQ.ext (e3.trans e5) z) _ _ z5⟩
  · have e : i = xs.length := by omega
    subst e
    rw [List.drop_length] at z2
    exact .inl ⟨it.stop e2 S2 z2.1 rfl, endL_to S2 z2.2⟩
theorem ae_lc (m : Bool) (c : Cg gz X E k) (hi : AI X E tg iter wi) (ok : BlkOk X.N X.env.scope scope own) (gw : GW X.K (own.map (·.2)) g gv)
    (hg : ∀ (s : Shared) (H : Hp) (C : Addr) (cl : List (Str × Addr)) (fp : List Addr), PG (Blk X scope s H C cl fp) tg gv)
    (ht : ∀ (s : Shared) (H : Hp) (C : Addr) (cl : List (Str × Addr)) (fp : List Addr), Cg gz (Blk X scope s H C cl fp) E0 k → ATs (Blk X scope s H C cl fp) E0 ifs tt)
    (he : ∀ (s : Shared) (H : Hp) (C : Addr) (cl : List (Str × Addr)) (fp : List Addr), Cg gz (Blk X scope s H C cl fp) E0 k → AE (Blk X scope s H C cl fp) E0 elt te)
    (hs : ∀ x, foldedSetIterable iter X.env x = pure x := by intro _; rfl) :
    AE X E (.ListComp elt [⟨tg, iter, ifs, 0⟩] scope pos) (wLc m wi g tt te (own.map (·.2))) :=
  have mg := gw.mo
  have mt := (ht X.s_0 X.H_0 0 [] [] (cg_blk c _ _ _ _ _)).mo
  have me := (he X.s_0 X.H_0 0 [] [] (cg_blk c _ _ _ _ _)).mo
  ⟨PE.imp (pe_lc (tt := tT X.K E0 tt) (te := tE X.K E0 te) c.calm c.nd hi.run ok hg (fun s H C cl fp => (ht s H C cl fp (cg_blk c s H C cl fp)).run) (fun s H C cl fp => (he s H C cl fp (cg_blk c s H C cl fp)).run) hs) fun σ H Q h => to_lc hi.mo mg mt me gw h, mo_lc hi.mo mg mt me⟩
theorem as_setLc (m : Bool) (i : Nat) {y : Str} {py spos : Pos} (c : Cg gz X E k) (hi : AI X E tg iter wi) (ok : BlkOk X.N X.env.scope scope own) (gw : GW X.K (own.map (·.2)) g gv)
    (hg : ∀ (s : Shared) (H : Hp) (C : Addr) (cl : List (Str × Addr)) (fp : List Addr), PG (Blk X scope s H C cl fp) tg gv)
    (ht : ∀ (s : Shared) (H : Hp) (C : Addr) (cl : List (Str × Addr)) (fp : List Addr), Cg gz (Blk X scope s H C cl fp) E0 k → ATs (Blk X scope s H C cl fp) E0 ifs tt)
    (he : ∀ (s : Shared) (H : Hp) (C : Addr) (cl : List (Str × Addr)) (fp : List Addr), Cg gz (Blk X scope s H C cl fp) E0 k → AE (Blk X scope s H C cl fp) E0 elt te)
    (hy : X.N[i]? = some y := by rfl) (hyl : X.env.scope.names.lookup y = some .local := by rfl)
    (hsw : swapsWith (.ListComp elt [⟨tg, iter, ifs, 0⟩] scope pos) (some (.Name y py)) spos.line X.env = pure true := by exact sw_true rfl rfl rfl (by decide +kernel))
    (hs : ∀ x, foldedSetIterable iter X.env x = pure x := by intro _; rfl) :
    AS X E (.Assign [.Name y py] (.ListComp elt [⟨tg, iter, ifs, 0⟩] scope pos) spos) (wAsg (wLc m wi g tt te (own.map (·.2))) (gN i)) := by
  have mg := gw.mo
  have mt := (ht X.s_0 X.H_0 0 [] [] (cg_blk c _ _ _ _ _)).mo
  have me := (he X.s_0 X.H_0 0 [] [] (cg_blk c _ _ _ _ _)).mo
  have P := ps_setLc (tt := tT X.K E0 tt) (te := tE X.K E0 te) (spos := spos) (pos := pos) (i := i) c.calm c.nd hy hyl hsw hi.run ok hg (fun s H C cl fp => (ht s H C cl fp (cg_blk c s H C cl fp)).run) (fun s H C cl fp => (he s H C cl fp (cg_blk c s H C cl fp)).run) hs
  have M := mo_lc (m := m) (vs := own.map (·.2)) hi.mo mg mt me
  refine ⟨PS.imp P fun D σ H h => ?_, mo_asg M fun d ρ h Q Q' X X' hq _ q => hq _ _ q⟩
  obtain ⟨F, ρ, h0, S, R, q⟩ := h
  refine to_lc (m := m) hi.mo mg mt me gw ⟨F, ρ, h0, S, R, M _ _ _ _ _ _ (fun x h1 z => ?_) (fun _ _ z => z) q⟩
  intro F1 H1 v e1 S1 r
  exact z F1 H1 _ e1 S1 ((R.ext e1).set r i)
end
end DL
namespace DL
open PySem PySem.Spec L2 C8
/-! ### subscripts -/
def dIx (x y : D) (h : AH) (Q : KD) : Prop := match y with
  | .int i => ∃ xs d, seqOf h x = some xs ∧ atI xs i = some d ∧ Q d h
  | _ => False
theorem Reps.atI {K : PySem.W.Frag} {F : Hp} {xs : List D} {vs : List V} {i : Int} {d : D} (r : Reps K F xs vs) (e : L2.atI xs i = some d) : ∃ v, L2.atI vs i = some v ∧ Rep K F d v := by
  unfold L2.atI at *
  rw [← r.length]
  cases q : ixN xs.length i with
  | none => rw [q] at e; cases e
  | some j =>
    rw [q] at e
    exact r.get (i := j) e
def rIxD2 (K : PySem.W.Frag) : R2 := fun x y H Q => rIxL K x y H Q ∨ rIxT K x y H Q
theorem ix_two {X : Cx} : IxR X (rIxD2 X.K) := IxR.or ix_list ix_tup
theorem dIx_ok {K : PySem.W.Frag} : OpD K (rIxD2 K) dIx where
  to := by
    intro F h H x y vx vy Q S rx ry q
    unfold dIx at q
    split at q
    · obtain ⟨xs, d, e1, e2, q⟩ := q
      cases ry
      obtain ⟨a, vs, rfl, hs, rs⟩ := S.seqOf rx e1
      obtain ⟨v, hv, rv⟩ := rs.atI e2
      rcases hs with hs | hs
      · exact .inl ⟨a, vs, _, v, rfl, rfl, hs, hv, q.at S rv⟩
      · exact .inr ⟨a, vs, _, v, rfl, rfl, hs, hv, q.at S rv⟩
    · exact q.elim
  mo := by
    intro x y h Q Q' hq q
    unfold dIx at *
    split at q
    · obtain ⟨xs, d, e1, e2, q⟩ := q
      exact ⟨xs, d, e1, e2, hq _ _ q⟩
    · exact q.elim
section
variable {X : Cx} {E : XK} {k : Nat} {a b e o i : Expr} {es : List Expr} {wa wb wo wi : WE} {wl : WA} {pos : Pos}
theorem ae_ix (ha : AE X E a wa) (hb : AE X E b wb) (hs : PlainIx b := by exact fun _ _ => rfl) : AE X E (.Subscript a b pos) (wOp dIx wa wb) :=
  ⟨PE.imp (pe_ix ix_two ha.run hb.run hs) fun σ H Q h => two dIx_ok ha hb h, mo_op (dIx_ok (K := X.K)).mo ha.mo hb.mo⟩
/-! ### slices -/
abbrev WO := EnvD → AH → (Option Int → AH → Prop) → KX → Prop
def woNone : WO := fun _ h Q _ => Q none h
def woSome (a : WE) : WO := fun ρ h Q X => a ρ h (fun x h1 => match x with
  | .int i => Q (some i) h1
  | _ => False) X
def MoO (w : WO) : Prop := ∀ ρ h Q Q' X X', (∀ d h, Q d h → Q' d h) → (∀ x h, X x h → X' x h) → w ρ h Q X → w ρ h Q' X'
def LO (K : PySem.W.Frag) (F : Hp) (Q : Option Int → Hp → Prop) : Option Int → AH → Prop := fun b h' => ∀ F' H', Ext F F' → Sim K F' h' H' → Q b H'
structure AO_ (X : Cx) (E : XK) (e : Option Expr) (w : WO) : Prop where
  run : PO X e (fun σ H Q => ∃ F ρ h, Sim X.K F h H ∧ EnvR X.K F ρ σ ∧ w ρ h (LO X.K F Q) (LX X.K F E))
  mo : MoO w
theorem ao_none : AO_ X E none woNone := by
  refine ⟨⟨fun pins s σ H Q I h => ?_⟩, fun ρ h Q Q' X X' hq _ q => hq _ _ q⟩
  obtain ⟨F, ρ, h, S, R, q⟩ := h
  exact po_none.run pins s σ H Q I (q F H (.refl F) S)
theorem ao_some (ha : AE X E a wa) : AO_ X E (some a) (woSome wa) := by
  refine ⟨⟨fun pins s σ H Q I h => ?_⟩, fun ρ h Q Q' X X' hq hx q => ha.mo _ _ _ _ _ _ (fun x h1 z => ?_) hx q⟩
  · obtain ⟨F, ρ, h, S, R, q⟩ := h
    refine (po_some ha.run).run pins s σ H Q I ⟨F, ρ, h, S, R, ha.mo _ _ _ _ _ _ (fun x h1 z => ?_) (fun _ _ z => z) q⟩
    intro F1 H1 v e1 S1 r
    split at z
    · cases r; exact ⟨_, rfl, z F1 H1 e1 S1⟩
    · exact z.elim
  · split at z
    · exact hq _ _ z
    · exact z.elim
def cutD {α : Type} (xs : List α) (lo hi : Option Int) : List α := (xs.drop (HT.sIx xs.length 0 lo)).take (HT.sIx xs.length xs.length hi - HT.sIx xs.length 0 lo)
theorem Reps.cut {K : PySem.W.Frag} {F : Hp} {xs : List D} {vs : List V} (r : Reps K F xs vs) (lo hi : Option Int) : Reps K F (cutD xs lo hi) (cutV vs lo hi) := by
  unfold cutD cutV
  rw [r.length]
  exact (r.drop _).take _
def dSl (m : Bool) (x : D) (lo hi : Option Int) (h : AH) (Q : KD) : Prop := match x with
  | .tup xs => Q (.tup (cutD xs lo hi)) h
  | .str s => s.length ≤ sizeLine ∧ Q (.str (Txt.slice s lo hi)) h
  | .ref a => match h a with
    | some (.lst xs) => newL m (cutD xs lo hi) h Q
    | some (.lck xs) => newL m (cutD xs lo hi) h Q
    | _ => False
  | .lst xs => newL m (cutD xs lo hi) h Q
  | .lk xs => newL m (cutD xs lo hi) h Q
  | _ => False
theorem dSl_mo {m : Bool} {x : D} {lo hi : Option Int} {h : AH} {Q Q' : KD} (hq : ∀ d h, Q d h → Q' d h) (q : dSl m x lo hi h Q) : dSl m x lo hi h Q' := by
  unfold dSl at *
  split at q
  · exact hq _ _ q
  · exact ⟨q.1, hq _ _ q.2⟩
  · split at q
    · exact newL_mo hq q
    · exact newL_mo hq q
    · exact q.elim
  · exact newL_mo hq q
  · exact newL_mo hq q
  · exact q.elim
def wSl (m : Bool) (a : WE) (lo hi : WO) : WE := fun ρ h Q X => a ρ h (fun x h1 => lo ρ h1 (fun l h2 => hi ρ h2 (fun u h3 => dSl m x l u h3 Q) X) X) X
def rSlD (K : PySem.W.Frag) : V → Option Int → Option Int → Hp → VK → Prop := fun x lo hi H Q => rSlA K x lo hi H Q ∨ (rSlX x lo hi H Q ∨ rSlL K x lo hi H Q)
theorem sl_all : SlR X (rSlD X.K) := SlR.or sl_tupA (SlR.or sl_txt sl_list)
theorem cut_whole {α : Type} {xs : List α} {lo hi : Option Int} (h : HT.sIx xs.length 0 lo = 0 ∧ HT.sIx xs.length xs.length hi = xs.length) : cutD xs lo hi = xs := by
  unfold cutD; rw [h.1, h.2]; simp
theorem dSl_to {K : PySem.W.Frag} {F : Hp} {h : AH} {H : Hp} {m : Bool} {x : D} {v : V} {lo hi : Option Int} {Q : VK} (S : Sim K F h H) (r : Rep K F x v) (q : dSl m x lo hi h (LQ K F Q)) : rSlD K v lo hi H Q := by
  unfold dSl at q
  split at q
  · cases r with
    | @tup a xs vs hs rs =>
      refine .inl ⟨a, vs, rfl, sqt_of S.fz hs, fun w => ?_, fun _ => S.newT (rs.cut lo hi) q⟩
      rw [cut_whole (by rw [rs.length]; exact w)] at q
      exact q.at S (.tup hs rs)
  · cases r; exact .inr (.inl ⟨_, rfl, q.1, q.2.at S (.str _)⟩)
  · rename_i a
    cases r
    split at q
    · rename_i xs e
      obtain ⟨_, u, hu, vs, rfl, rs⟩ := S.ob _ _ e
      exact .inr (.inr ⟨a, vs, rfl, .of hu, S.newL (rs.cut lo hi) q⟩)
    · rename_i xs e
      obtain ⟨_, u, hu, o, vs, rfl, rs⟩ := S.ob _ _ e
      exact .inr (.inr ⟨a, vs, rfl, .inl (.inr ⟨o, hu⟩), S.newL (rs.cut lo hi) q⟩)
    · exact q.elim
  · cases r with
    | @lst a xs vs hs rs => exact .inr (.inr ⟨a, vs, rfl, .of (S.fz _ _ hs), S.newL (rs.cut lo hi) q⟩)
  · cases r with
    | @lk a xs vs hs rs => exact .inr (.inr ⟨a, vs, rfl, Ext.sql S.fz hs, S.newL (rs.cut lo hi) q⟩)
  · exact q.elim
theorem ae_sl (m : Bool) {lo hi : Option Expr} {wlo whi : WO} {p2 : Pos} (ha : AE X E a wa) (hl : AO_ X E lo wlo) (hh : AO_ X E hi whi) : AE X E (.Subscript a (.Slice lo hi none p2) pos) (wSl m wa wlo whi) := by
  refine ⟨PE.imp (pe_slice sl_all ha.run hl.run hh.run) fun σ H Q ⟨F, ρ, g, S, R, q⟩ => ?_, fun ρ h Q Q' X X' hq hx q => ha.mo _ _ _ _ _ _ (fun x h1 z => hl.mo _ _ _ _ _ _ (fun l h2 z => hh.mo _ _ _ _ _ _ (fun u h3 z => dSl_mo hq z) hx z) hx z) hx q⟩
  refine ⟨F, ρ, g, S, R, ha.mo _ _ _ _ _ _ (fun x h1 z => ?_) (fun _ _ z => z) q⟩
  intro F1 H1 v e1 S1 r
  refine ⟨F1, ρ, h1, S1, R.ext e1, hl.mo _ _ _ _ _ _ (fun l h2 z => ?_) (fun _ _ z => LX.ext e1 z) z⟩
  intro F2 H2 e2 S2
  refine ⟨F2, ρ, h2, S2, R.ext (e1.trans e2), hh.mo _ _ _ _ _ _ (fun u h3 z => ?_) (fun _ _ z => LX.ext (e1.trans e2) z) z⟩
  intro F3 H3 e3 S3
  exact dSl_to S3 (r.ext (e2.trans e3)) (dSl_mo (fun _ _ z => LQ.ext (e1.trans (e2.trans e3)) z) z)
/-! ### x[i] = v, of a list -/
def gSubL (wo wi : WE) : WG := fun d ρ h Q X => wo ρ h (fun o h1 => wi ρ h1 (fun i h2 => ∃ a xs k j, o = .ref a ∧ i = .int k ∧ h2 a = some (.lst xs) ∧ ixN xs.length k = some j ∧ Q ρ (up h2 a (.lst (xs.set j d)))) X) X
theorem ag_subL (ho : AE X E o wo) (hi : AE X E i wi) (ha : ∀ v, assign (.Subscript o i pos) X.env v = (do
      let ov ← holding [v] (eval o X.env)
      let iv ← holding [v, ov] (eval i X.env)
      standAt pos
      holding [v, ov, iv] (setItem ov iv v)
      release [v, ov, iv] []) := by intro _; rfl) : AG X E (.Subscript o i pos) (gSubL wo wi) := by
  refine ⟨PG.imp (pg_sub ho.run hi.run set_list ha) fun v σ H Q ⟨F, ρ, g, d, S, R, r, q⟩ => ?_, fun d ρ h Q Q' X X' hq hx q => ho.mo _ _ _ _ _ _ (fun x h1 z => hi.mo _ _ _ _ _ _ (fun y h2 ⟨a, xs, k, j, e1, e2, e3, e4, z⟩ => ⟨a, xs, k, j, e1, e2, e3, e4, hq _ _ z⟩) hx z) hx q⟩
  refine ⟨F, ρ, g, S, R, ho.mo _ _ _ _ _ _ (fun x h1 z => ?_) (fun _ _ z => z) q⟩
  intro F1 H1 vo e1 S1 ro
  refine ⟨F1, ρ, h1, S1, R.ext e1, hi.mo _ _ _ _ _ _ (fun y h2 z => ?_) (fun _ _ z => LX.ext e1 z) z⟩
  intro F2 H2 vi e2 S2 ri
  obtain ⟨a, xs, k, j, rfl, rfl, ea, ej, z⟩ := z
  cases ri
  have ro2 := ro.ext e2
  cases ro2
  obtain ⟨_, u, hu, vs, rfl, rs⟩ := S2.ob _ _ ea
  exact ⟨a, vs, k, j, rfl, rfl, hu, by rw [← rs.length]; exact ej, z F2 _ σ (e1.trans e2) (S2.put ea (o := .lst (xs.set j d)) ⟨_, rfl, rs.set (r.ext (e1.trans e2)) j⟩) (R.ext (e1.trans e2))⟩
/-! ### methods of a list that changes it -/
structure MeD (K : PySem.W.Frag) (T : String) (rv : V → List V → Hp → VK → Prop) (f : D → List D → AH → KD → Prop) (ty : D → AH → Prop) : Prop where
  to : ∀ {F h H x xs vx vs} {Q : VK}, Sim K F h H → Rep K F x vx → Reps K F xs vs → f x xs h (LQ K F Q) → rv vx vs H Q
  ty : ∀ {F h H x vx}, Sim K F h H → Rep K F x vx → ty x h → tyV K T vx H
  mo : ∀ {x xs h} {Q Q' : KD}, (∀ d h, Q d h → Q' d h) → f x xs h Q → f x xs h Q'
def wMethT (ty : D → AH → Prop) (f : D → List D → AH → KD → Prop) (wo : WE) (wl : WA) : WE := fun ρ h Q X => wo ρ h (fun x h1 => ty x h1 ∧ wl ρ h1 (fun xs h2 => f x xs h2 Q) X) X
theorem ae_bm {T id : String} {name : Str} {rv : V → List V → Hp → VK → Prop} {f : D → List D → AH → KD → Prop} {ty : D → AH → Prop} {apos cpos : Pos} (M : MeD X.K T rv f ty) (hm : MtR X id rv)
    (pa : PlainAttrs T) (slot : Slot T name id) (hty : typeOf (.builtin id) = pure (.type "method_descriptor")) (ho : AE X E o wo) (ha : AA X E (e :: es) wl)
    (hbase : attributeBase o name X.env (eval o X.env) = eval o X.env := by rfl)
    (hfew : ((backTo cpos (starEach (e :: es) X.env)).all (fun x => !x.1) && (backToKw cpos (keywordEach [] X.env)).all (fun x => x.1.isSome)
      && decide ((e :: es).length + ([] : List Keyword).length + (if ([] : List Keyword).isEmpty then 0 else 1) < 30)) = true := by rfl)
    (hline : (apos.endLine == cpos.line) = true := by rfl) (hs : starEach (e :: es) X.env = (false, eval e X.env) :: starEach es X.env := by rfl) (hplain : (backTo cpos (starEach es X.env)).any (·.1) = false := by rfl) :
    AE X E (.Call (.Attribute o name apos) (e :: es) [] cpos) (wMethT ty f wo wl) := by
  refine ⟨PE.imp (pe_bm pa slot hty hm ho.run ha.run hbase hfew hline hs hplain) fun σ H Q ⟨F, ρ, g, S, R, q⟩ => ?_, fun ρ h Q Q' X X' hq hx q => ho.mo _ _ _ _ _ _ (fun x h1 z => ⟨z.1, ha.mo _ _ _ _ _ _ (fun xs h2 z => M.mo hq z) hx z.2⟩) hx q⟩
  refine ⟨F, ρ, g, S, R, ho.mo _ _ _ _ _ _ (fun x h1 z => ?_) (fun _ _ z => z) q⟩
  intro F1 H1 vx e1 S1 rx
  refine ⟨M.ty S1 rx z.1, F1, ρ, h1, S1, R.ext e1, ha.mo _ _ _ _ _ _ (fun xs h2 z => ?_) (fun _ _ z => LX.ext e1 z) z.2⟩
  intro F2 H2 vs e2 S2 rs
  exact M.to S2 (rx.ext e2) rs (M.mo (fun _ _ z => LQ.ext (e1.trans e2) z) z)
def isL (x : D) (h : AH) : Prop := ∃ xs, lstOf h x = some xs
theorem isL_ty {K : PySem.W.Frag} {F : Hp} {h : AH} {H : Hp} {x : D} {v : V} (S : Sim K F h H) (r : Rep K F x v) (t : isL x h) : tyV K "list" v H := by
  obtain ⟨xs, e⟩ := t
  obtain ⟨a, vs, rfl, ha, _⟩ := S.lstOf r e
  exact .inl ⟨rfl, vs, .of ha⟩
def dAppend (x : D) (ys : List D) (h : AH) (Q : KD) : Prop := ∃ a xs y, x = .ref a ∧ ys = [y] ∧ h a = some (.lst xs) ∧ xs.length < sizeLine ∧ Q .non (up h a (.lst (xs ++ [y])))
theorem dAppend_ok {K : PySem.W.Frag} : MeD K "list" rAppend dAppend isL where
  ty := isL_ty
  mo := fun hq ⟨a, xs, y, e1, e2, e3, e4, q⟩ => ⟨a, xs, y, e1, e2, e3, e4, hq _ _ q⟩
  to := by
    rintro F h H x ys vx vs Q S rx rs ⟨a, xs, y, rfl, rfl, e, l, q⟩
    cases rx
    cases rs with
    | cons r rs =>
      cases rs
      obtain ⟨_, u, hu, us, rfl, ru⟩ := S.ob _ _ e
      exact ⟨a, us, _, rfl, rfl, hu, by rw [← ru.length]; exact l, q F _ _ (.refl F) (S.put e (o := .lst (xs ++ [y])) ⟨_, rfl, ru.append (.cons r .nil)⟩) .non⟩
theorem ae_append {apos cpos : Pos} (ho : AE X E o wo) (ha : AA X E [e] wl) (hbase : attributeBase o "append" X.env (eval o X.env) = eval o X.env := by rfl)
    (hfew : ((backTo cpos (starEach [e] X.env)).all (fun x => !x.1) && (backToKw cpos (keywordEach [] X.env)).all (fun x => x.1.isSome) && decide ([e].length + ([] : List Keyword).length + (if ([] : List Keyword).isEmpty then 0 else 1) < 30)) = true := by rfl)
    (hline : (apos.endLine == cpos.line) = true := by rfl) (hs : starEach [e] X.env = (false, eval e X.env) :: starEach [] X.env := by rfl) (hplain : (backTo cpos (starEach [] X.env)).any (·.1) = false := by rfl) :
    AE X E (.Call (.Attribute o "append" apos) [e] [] cpos) (wMethT isL dAppend wo wl) :=
  ae_bm dAppend_ok mt_append PySem.F.plainAttrs_list PySem.F.slot_list_append PySem.F.type_list_append ho ha hbase hfew hline hs hplain
end
/-! ### built-ins -/
def lenD (h : AH) (x : D) : Option Nat := match cur h x with
  | .tup xs => some xs.length
  | .tpl xs => some xs.length
  | .lst xs => some xs.length
  | .dK xs => some xs.length
  | .str s => some s.length
  | _ => none
def dLen (ds : List D) (h : AH) (Q : KD) : Prop := match ds with
  | [.str s] => s.length ≤ sizeLine ∧ Q (.int s.length) h
  | [x] => ∃ n, lenD h x = some n ∧ Q (.int (n : Nat)) h
  | _ => False
def dAbs (ds : List D) (h : AH) (Q : KD) : Prop := match ds with
  | [.int i] => Q (.int (if i < 0 then -i else i)) h
  | _ => False
def dInt (ds : List D) (h : AH) (Q : KD) : Prop := match ds with
  | [.int i] => Q (.int i) h
  | [.bl b] => Q (.int (if b then 1 else 0)) h
  | _ => False
def dSum (ds : List D) (h : AH) (Q : KD) : Prop := ∃ (x : D) (ns : List Int), ds = [x] ∧ lstOf h x = some (ns.map D.int) ∧ Q (.int ns.sum) h
def dAny (ds : List D) (h : AH) (Q : KD) : Prop := ∃ (x : D) (bs : List Bool), ds = [x] ∧ lstOf h x = some (bs.map D.bl) ∧ Q (.bl (bs.any id)) h
def dListOf (m : Bool) (ds : List D) (h : AH) (Q : KD) : Prop := ∃ x xs, ds = [x] ∧ seqOf h x = some xs ∧ newL m xs h Q
def dTupOf (ds : List D) (h : AH) (Q : KD) : Prop := ∃ x xs, ds = [x] ∧ seqOf h x = some xs ∧ Q (.tup xs) h
def tyD (h : AH) (x : D) : Option String := match cur h x with
  | .non => some "NoneType"
  | .bl _ => some "bool"
  | .int _ => some "int"
  | .str _ => some "str"
  | .tup _ => some "tuple"
  | .tpl _ => some "tuple"
  | .lst _ => some "list"
  | .dK _ => some "dict"
  | .dT _ => some "dict"
  | _ => none
def dIsi (ds : List D) (h : AH) (Q : KD) : Prop := ∃ x t n b, ds = [x, .ty n] ∧ tyD h x = some t ∧ L2.kitB t n = some b ∧ Q (.bl b) h
end DL
namespace DL
open PySem PySem.Spec L2 C8
section
variable {K : PySem.W.Frag} {F : Hp} {h : AH} {H : Hp}
theorem Reps.one {d : D} {vs : List V} (r : Reps K F [d] vs) : ∃ v, vs = [v] ∧ Rep K F d v := by
  cases r with | cons r rs => cases rs; exact ⟨_, rfl, r⟩
theorem Reps.two {d e : D} {vs : List V} (r : Reps K F [d, e] vs) : ∃ v w, vs = [v, w] ∧ Rep K F d v ∧ Rep K F e w := by
  cases r with | cons r rs => cases rs with | cons q qs => cases qs; exact ⟨_, _, rfl, r, q⟩
theorem Reps.ints : ∀ {ns : List Int} {vs : List V}, Reps K F (ns.map D.int) vs → vs = ns.map V.int
  | [], _, .nil => rfl
  | n :: ns, _, .cons r t => by cases r; rw [Reps.ints t]; rfl
theorem Reps.bls : ∀ {ns : List Bool} {vs : List V}, Reps K F (ns.map D.bl) vs → vs = ns.map V.bl
  | [], _, .nil => rfl
  | n :: ns, _, .cons r t => by cases r; rw [Reps.bls t]; rfl
theorem Sim.intsOf {x : D} {v : V} {ns : List Int} (S : Sim K F h H) (r : Rep K F x v) (e : DL.lstOf h x = some (ns.map D.int)) : ∃ a, v = .ref a ∧ SqL K H a (ns.map V.int) := by
  obtain ⟨a, vs, rfl, ha, rs⟩ := S.lstOf r e
  rw [rs.ints] at ha
  exact ⟨a, rfl, .of ha⟩
end
section
variable {X : Cx}
theorem dAbs_ok : CaD X (.builtin "abs") dAbs where
  ex := ⟨_, call_abs, fun {F h H ds vs Q} S r q => by
    unfold dAbs at q; split at q
    · obtain ⟨v, rfl, r1⟩ := r.one; cases r1; exact ⟨_, rfl, q.at S (.int _)⟩
    · exact q.elim⟩
  mo := fun {ds h Q Q'} hq q => by
    unfold dAbs at *; split at q
    · exact hq _ _ q
    · exact q.elim
theorem dInt_ok : CaD X (.type "int") dInt where
  ex := ⟨_, call_int1, fun {F h H ds vs Q} S r q => by
    unfold dInt at q; split at q
    · obtain ⟨v, rfl, r1⟩ := r.one; cases r1; exact .inl ⟨_, rfl, q.at S (.int _)⟩
    · obtain ⟨v, rfl, r1⟩ := r.one; cases r1; exact .inr ⟨_, rfl, q.at S (.int _)⟩
    · exact q.elim⟩
  mo := fun {ds h Q Q'} hq q => by
    unfold dInt at *; split at q
    · exact hq _ _ q
    · exact hq _ _ q
    · exact q.elim
theorem dSum_ok (hc : X.calm = true) : CaD X (.builtin "sum") dSum where
  ex := ⟨_, cr_sum hc, fun {F h H ds vs Q} S r q => by
    obtain ⟨x, ns, rfl, e, q⟩ := q
    obtain ⟨v, rfl, r1⟩ := r.one
    obtain ⟨a, rfl, ha⟩ := S.intsOf r1 e
    exact ⟨a, ns, rfl, ha, q.at S (.int _)⟩⟩
  mo := fun {ds h Q Q'} hq ⟨x, ns, e, e2, q⟩ => ⟨x, ns, e, e2, hq _ _ q⟩
theorem dAny_ok (hc : X.calm = true) : CaD X (.builtin "any") dAny where
  ex := ⟨_, cr_any hc, fun {F h H ds vs Q} S r q => by
    obtain ⟨x, ns, rfl, e, q⟩ := q
    obtain ⟨v, rfl, r1⟩ := r.one
    obtain ⟨a, us, rfl, ha, rs⟩ := S.lstOf r1 e
    rw [rs.bls] at ha
    exact ⟨a, ns, rfl, .of ha, q.at S (.bl _)⟩⟩
  mo := fun {ds h Q Q'} hq ⟨x, ns, e, e2, q⟩ => ⟨x, ns, e, e2, hq _ _ q⟩
theorem dListOf_ok {m : Bool} : CaD X (.type "list") (dListOf m) where
  ex := ⟨_, call_list_of, fun {F h H ds vs Q} S r q => by
    obtain ⟨x, xs, rfl, e, q⟩ := q
    obtain ⟨v, rfl, r1⟩ := r.one
    obtain ⟨a, us, rfl, ha, rs⟩ := S.seqOf r1 e
    exact ⟨a, us, rfl, ha, S.newL rs q⟩⟩
  mo := fun {ds h Q Q'} hq ⟨x, ns, e, e2, q⟩ => ⟨x, ns, e, e2, newL_mo hq q⟩
theorem dTupOf_ok : CaD X (.type "tuple") dTupOf where
  ex := ⟨_, call_tuple_of, fun {F h H ds vs Q} S r q => by
    obtain ⟨x, xs, rfl, e, q⟩ := q
    obtain ⟨v, rfl, r1⟩ := r.one
    by_cases c : ∃ ys, x = .tup ys
    · obtain ⟨ys, rfl⟩ := c
      cases e
      cases r1 with
      | @tup a _ ws hs rs => exact ⟨a, ws, rfl, .inr ⟨sqt_of S.fz hs, q.at S (.tup hs rs)⟩⟩
    by_cases c2 : ∃ ys, x = .tpl ys
    · obtain ⟨ys, rfl⟩ := c2
      cases e
      cases r1 with
      | @tpl a _ _ ws hs _ rs => exact ⟨a, ws, rfl, .inr ⟨sqt_of S.fz (.inl (.inr ⟨_, hs⟩)), q.at S (.tup (.inl (.inr ⟨_, hs⟩)) rs)⟩⟩
    · have e' : lstOf h x = some xs := by
        cases x <;> first | exact e | exact absurd ⟨_, rfl⟩ c | exact absurd ⟨_, rfl⟩ c2
      obtain ⟨a, us, rfl, ha, rs⟩ := S.lstOf r1 e'
      exact ⟨a, us, rfl, .inl ⟨.of ha, S.newT rs q⟩⟩⟩
  mo := fun {ds h Q Q'} hq ⟨x, ns, e, e2, q⟩ => ⟨x, ns, e, e2, hq _ _ q⟩
def rLenD (K : PySem.W.Frag) : List V → Hp → VK → Prop := fun xs H Q => (∃ z, xs = [V.str z] ∧ z.length ≤ sizeLine ∧ Q (.int z.length) H) ∨ ((∃ p ys, xs = [V.ref p] ∧ (SqL K H p ys ∨ SqT K H p ys) ∧ Q (.int ys.length) H) ∨ ∃ a kvs, xs = [V.ref a] ∧ H a = some (.dK kvs) ∧ Q (.int kvs.length) H)
theorem RepK.length {K : PySem.W.Frag} {F : Hp} : ∀ {xs : List (Key × D)} {vs : List (Key × V)}, RepK K F xs vs → xs.length = vs.length
  | _, _, .nil => rfl
  | _, _, .cons _ t => by simp [RepK.length t]
theorem dLen_ok : CaD X (.builtin "len") dLen where
  ex := ⟨rLenD X.K, CallR.or call_len_str (CallR.or call_len_seq call_lenD), fun {F h H ds vs Q} S r q => by
    unfold dLen at q
    split at q
    · obtain ⟨v, rfl, r1⟩ := r.one; cases r1
      exact .inl ⟨_, rfl, q.1, q.2.at S (.int _)⟩
    · obtain ⟨n, e, q⟩ := q
      obtain ⟨v, rfl, r1⟩ := r.one
      cases r1 with
      | ref a =>
        cases ea : h a with
        | none => simp [lenD, cur, ea] at e
        | some o =>
          obtain ⟨_, u, hu, ro⟩ := S.ob _ _ ea
          cases o with
          | lst xs =>
            obtain ⟨us, rfl, rs⟩ := ro
            simp only [lenD, cur, ea, Option.some.injEq] at e
            subst e
            exact .inr (.inl ⟨a, us, rfl, .inl (.of hu), by rw [← rs.length]; exact q.at S (.int _)⟩)
          | dK xs =>
            obtain ⟨us, rfl, rs⟩ := ro
            simp only [lenD, cur, ea, Option.some.injEq] at e
            subst e
            exact .inr (.inr ⟨a, us, rfl, hu, by rw [← rs.length]; exact q.at S (.int _)⟩)
          | dT _ => simp [lenD, cur, ea] at e
          | ins _ _ => simp [lenD, cur, ea] at e
          | lck _ => simp [lenD, cur, ea] at e
          | lckK _ _ => simp [lenD, cur, ea] at e
          | tab _ => simp [lenD, cur, ea] at e
      | @tup a xs us hs rs =>
        simp only [lenD, cur, Option.some.injEq] at e
        subst e
        exact .inr (.inl ⟨a, us, rfl, .inr (sqt_of S.fz hs), by rw [← rs.length]; exact q.at S (.int _)⟩)
      | @tpl a ob xs us hs hd rs =>
        simp only [lenD, cur, Option.some.injEq] at e
        subst e
        exact .inr (.inl ⟨a, us, rfl, .inr (sqt_of S.fz (.inl (.inr ⟨_, hs⟩))), by rw [← rs.length]; exact q.at S (.int _)⟩)
      | @lst a xs us hs rs =>
        simp only [lenD, cur, Option.some.injEq] at e
        subst e
        exact .inr (.inl ⟨a, us, rfl, .inl (.of (S.fz _ _ hs)), by rw [← rs.length]; exact q.at S (.int _)⟩)
      | @dK a xs us hs rs =>
        simp only [lenD, cur, Option.some.injEq] at e
        subst e
        exact .inr (.inr ⟨a, us, rfl, S.fz _ _ hs, by rw [← rs.length]; exact q.at S (.int _)⟩)
      | dT _ _ => simp [lenD, cur] at e
      | str s => rename_i hn; exact absurd rfl (hn s)
      | non => simp [lenD, cur] at e
      | bl _ => simp [lenD, cur] at e
      | int _ => simp [lenD, cur] at e
      | ty _ => simp [lenD, cur] at e
      | lk _ _ => simp [lenD, cur] at e
      | ob _ _ => simp [lenD, cur] at e
      | xob0 _ => simp [lenD, cur] at e
      | lam _ _ => simp [lenD, cur] at e
      | xob _ _ _ => simp [lenD, cur] at e
    · exact q.elim⟩
  mo := fun {ds h Q Q'} hq q => by
    unfold dLen at *; split at q
    · exact ⟨q.1, hq _ _ q.2⟩
    · obtain ⟨n, e, q⟩ := q; exact ⟨n, e, hq _ _ q⟩
    · exact q.elim
/-- the type of a value -/
theorem Sim.tyD {K : PySem.W.Frag} {F : Hp} {h : AH} {H : Hp} {x : D} {v : V} {t : String} (S : Sim K F h H) (r : Rep K F x v) (e : DL.tyD h x = some t) : TyX K H v (.type t) := by
  cases r with
  | ref a =>
    cases ea : h a with
    | none => simp [DL.tyD, cur, ea] at e
    | some o =>
      obtain ⟨_, u, hu, ro⟩ := S.ob _ _ ea
      cases o with
      | lst xs => obtain ⟨us, rfl, rs⟩ := ro; simp only [DL.tyD, cur, ea, Option.some.injEq] at e; subst e; exact .base (.lst hu)
      | dK xs => obtain ⟨us, rfl, rs⟩ := ro; simp only [DL.tyD, cur, ea, Option.some.injEq] at e; subst e; exact .base (.dK hu)
      | dT xs => obtain ⟨us, rfl, rs⟩ := ro; simp only [DL.tyD, cur, ea, Option.some.injEq] at e; subst e; exact .base (.dT hu)
      | ins _ _ => simp [DL.tyD, cur, ea] at e
      | lck _ => simp [DL.tyD, cur, ea] at e
      | lckK _ _ => simp [DL.tyD, cur, ea] at e
      | tab _ => simp [DL.tyD, cur, ea] at e
  | non => simp only [DL.tyD, cur, Option.some.injEq] at e; subst e; exact .base .non
  | bl b => simp only [DL.tyD, cur, Option.some.injEq] at e; subst e; exact .base (.bl b)
  | int i => simp only [DL.tyD, cur, Option.some.injEq] at e; subst e; exact .base (.int i)
  | str s => simp only [DL.tyD, cur, Option.some.injEq] at e; subst e; exact .base (.str s)
  | ty n => simp [DL.tyD, cur] at e
  | lk _ _ => simp [DL.tyD, cur] at e
  | ob _ _ => simp [DL.tyD, cur] at e
  | xob0 _ => simp [DL.tyD, cur] at e
  | lam _ _ => simp [DL.tyD, cur] at e
  | xob _ _ _ => simp [DL.tyD, cur] at e
  | tup hs rs =>
    simp only [DL.tyD, cur, Option.some.injEq] at e; subst e
    rcases sqt_of S.fz hs with (q | ⟨o, q⟩) | ⟨o, its, n, q, c, _⟩
    · exact .base (.tup q)
    · exact .fTuple q
    · exact .kTuple q c
  | tpl hs hd rs => simp only [DL.tyD, cur, Option.some.injEq] at e; subst e; exact .fTuple (S.fz _ _ hs)
  | lst hs rs => simp only [DL.tyD, cur, Option.some.injEq] at e; subst e; exact .base (.lst (S.fz _ _ hs))
  | dK hs rs => simp only [DL.tyD, cur, Option.some.injEq] at e; subst e; exact .base (.dK (S.fz _ _ hs))
  | dT hs rs => simp only [DL.tyD, cur, Option.some.injEq] at e; subst e; exact .base (.dT (S.fz _ _ hs))
theorem dIsi_ok : CaD X (.builtin "isinstance") dIsi where
  ex := ⟨_, call_isi, fun {F h H ds vs Q} S r q => by
    obtain ⟨x, t, n, b, rfl, et, eb, q⟩ := q
    obtain ⟨v, w, rfl, r1, r2⟩ := r.two
    cases r2
    exact ⟨v, .ty n, .type t, .type n, b, rfl, .ty n, S.tyD r1 et, kit_ty eb, q.at S (.bl _)⟩⟩
  mo := fun {ds h Q Q'} hq ⟨x, t, n, b, e, e1, e2, q⟩ => ⟨x, t, n, b, e, e1, e2, hq _ _ q⟩
/-! ### repr -/
end
end DL
namespace DL
open PySem PySem.Spec L2 C8
/-! ### one more built-in runs around -/
abbrev inX (X : Cx) : Cx := { X with A := X.A.in1 }
theorem ok_in {X : Cx} (ok : X.Ok) : (inX X).Ok :=
  ⟨ok.mod, ok.kind, ok.glob, ok.blt, ok.above, ok.inj, ok.has, ok.cab, ok.hd, ok.frames, ok.stk, ok.exf, ok.bs, ok.bsz, ok.noex, ok.exfs, ok.funs, ok.frf⟩
theorem ok_out {X : Cx} (ok : (inX X).Ok) : X.Ok :=
  ⟨ok.mod, ok.kind, ok.glob, ok.blt, ok.above, ok.inj, ok.has, ok.cab, ok.hd, ok.frames, ok.stk, ok.exf, ok.bs, ok.bsz, ok.noex, ok.exfs, ok.funs, ok.frf⟩
section
variable {X : Cx} {pins : List (Addr × Obj)} {σ : L2.St} {H : Hp} {s : Shared}
theorem inv_in (I : Inv X pins σ H s) : Inv (inX X) pins σ H s := ⟨ok_in I.ok, I.os, I.bare, I.base, I.loc, I.cell, I.free, I.freeC, I.pin, I.hok, I.len⟩
theorem inv_out (I : Inv (inX X) pins σ H s) : Inv X pins σ H s := ⟨ok_out I.ok, I.os, I.bare, I.base, I.loc, I.cell, I.free, I.freeC, I.pin, I.hok, I.len⟩
end
/-! ### d.items() as a value, d with keys that are ints or texts -/
def rItemsV : V → List V → Hp → VK → Prop := fun x xs H Q => ∃ (a : Addr) (kvs : List (Key × V)), x = .ref a ∧ xs = [] ∧ H a = some (.dK kvs) ∧ ∀ p, H p = none → Q (.ref p) (upd H p (L2.DX.itemsO p a))
section
variable {X : Cx}
theorem mt_itemsV : MtR X "dict.items" rItemsV := by
  intro pins s σ H x xs v us Q I rx rs h
  obtain ⟨a, kvs, rfl, rfl, ha, q⟩ := h
  cases rx
  cases rs
  obtain ⟨z, hd, vs, kv, o, es, ep, ho, hx, hdt, _⟩ := dk_of I.hok ha
  have hf : H s.heap.objs.size = none := I.hok.fresh (Nat.le_refl _)
  refine DT.callItems (es := es) (ep := ep) hd ⟨o, ho, hx, hdt⟩ ?_
  exact ⟨.ref s.heap.objs.size, _, I.laid (t' := s.toks) (fun b u e => Heap.get?_push_of_some _ e) (Nat.le_refl _) (L2.DX.itemsO_ok (Heap.get?_push_size _ rfl)), rfl, q _ hf⟩
/-- sorted of the view p of a dict whose keys and values are ints -/
def rSortIt : List V → Hp → VK → Prop := fun vs H Q => ∃ (p a : Addr) (es : List (Int × Int)), vs = [.ref p] ∧ H p = some (L2.DX.itemsO p a) ∧ H a = some (.dK (es.map fun e => (Sum.inl e.1, V.int e.2))) ∧
  ∀ (H' : Hp) (l : Addr) (ps : List (Addr × Int × Int)), (∀ b o, H b = some o → H' b = some o) → H l = none → (∀ z ∈ ps, z.1 ≠ l ∧ H z.1 = none) → (ps.map (·.2)).Perm es → (ps.map (·.2)).Pairwise (fun e f => e.1 < f.1 ∨ (e.1 = f.1 ∧ e.2 ≤ f.2)) →
    H' l = some (.lst (ps.map fun z => V.ref z.1)) → (∀ z ∈ ps, H' z.1 = some (.tup [.int z.2.1, .int z.2.2])) → Q (.ref l) H'
/-- entries of such a dict -/
theorem ents_of {P : Program} {w : World} : ∀ {es : List (Int × Int)} {vs : List (Key × Value)} {en : List DictEntry}, KV (es.map fun e => ((Sum.inl e.1 : Key), V.int e.2)) vs → Pairs (mixKind P w) en vs →
    en.length = es.length ∧ ∀ (j : Nat) (e : DictEntry), en[j]? = some e → ∃ (x : Int × Int) (t u : Tok), es[j]? = some x ∧ e.key = .int x.1 t ∧ e.val = .int x.2 u
  | [], _, _, .nil, .nil => ⟨rfl, fun j e h => by simp at h⟩
  | x :: es, _, _, .cons h1 h2, .cons k1 k2 k3 => by
    obtain ⟨l, ih⟩ := ents_of h2 k3
    refine ⟨by simp [l], fun j e hj => ?_⟩
    cases j with
    | zero =>
      simp only [List.getElem?_cons_zero, Option.some.injEq] at hj
      subst hj
      obtain ⟨e1, u, e2⟩ := h1
      rw [← e1] at k1
      have k1 : keyIs (Sum.inl x.1) _ = true := k1
      rcases keyIs_shape k1 with ⟨i, t, ei, ek⟩ | ⟨y, t, ei, ek⟩
      · cases ei
        exact ⟨x, t, u, rfl, ek, k2.trans e2⟩
      · cases ei
    | succ j => exact ih j e hj
def kOf (H : Hp) : V → Int × Int
  | .ref t => match H t with
    | some (.tup [.int i, .int j]) => (i, j)
    | _ => (0, 0)
  | _ => (0, 0)
theorem kOf_at {H : Hp} {t : Addr} {i j : Int} (h : H t = some (.tup [.int i, .int j])) : kOf H (.ref t) = (i, j) := by
  simp [kOf, h]
theorem cr_sortIt (hc : X.calm = true) : CallR X (.builtin "sorted") rSortIt := by
  intro pins s σ H xs us Q I r h
  obtain ⟨p, a, es, rfl, hp, ha, q⟩ := h
  obtain rfl := Vals.ref1 r
  have view : s.heap.IsItemsView p a := (show ObjOk X.prog X.w H s.heap p (L2.DX.itemsO p a) from I.hok p _ hp).1
  obtain ⟨z, hd, vs, kv, o, en, ep, ho, hx, hdt, hk, hpr, nd⟩ := dk_of I.hok ha
  rw [List.length_map] at z
  obtain ⟨len, ent⟩ := ents_of kv hpr
  have lsz : en.size = es.length := by rw [← len]; simp
  refine DT.sortedI (es := en) (ep := ep) (I.ok.hd hc) view ⟨o, ho, hx, hdt⟩ (by rw [lsz]; exact z) fun h' tk as hk' hlt hl hG => ?_
  have I1 : Inv X pins σ H { s with heap := h', toks := tk } := I.kept hk'
  have nda : as.Nodup := List.Pairwise.imp (fun h => Nat.ne_of_lt h) hG.rise
  have lss : sizeLine = 16777216 := sizeLine_eq
  -- the pairs
  have pr : ∀ (j : Nat) (b : Addr), as[j]? = some b → ∃ (x : Int × Int) (t u : Tok), es[j]? = some x ∧ h'.get? b = some { cls := .type "tuple", data := .seq #[.int x.1 t, .int x.2 u] } := by
    intro j b hj
    obtain ⟨e, he, hg⟩ := hG.pairs j b hj
    obtain ⟨x, t, u, hx, ek, ev⟩ := ent j e (by simpa using he)
    rw [ek, ev] at hg
    exact ⟨x, t, u, hx, hg⟩
  obtain ⟨H2, I2, sm, tup⟩ := L2.DX.takeT (P := fun b ws => ∃ (j : Nat) (x : Int × Int), as[j]? = some b ∧ es[j]? = some x ∧ ws = [V.int x.1, V.int x.2]) I as H I1 nda fun b hb => by
    obtain ⟨j, hj⟩ := List.mem_iff_getElem?.mp hb
    obtain ⟨x, t, u, hx, hg⟩ := pr j b hj
    have hbl : s.heap.objs.size ≤ b := Nat.le_of_lt (hG.above b hb)
    exact ⟨hbl, I.hok.fresh hbl, _, ⟨j, x, hj, hx, rfl⟩, fun H3 => ⟨by rw [lss]; show 2 ≤ 16777216; omega, _, .cons ⟨_, rfl⟩ (.cons ⟨_, rfl⟩ .nil), ⟨_, hg, rfl, 0, rfl⟩⟩⟩
  have fresh : H2 h'.objs.size = none := I2.hok.fresh (Nat.le_refl _)
  have below : ∀ b ∈ as, b ≠ h'.objs.size := fun b hb e => by
    obtain ⟨_, _, z⟩ := tup b hb
    rw [e, fresh] at z; cases z
  have lv : Vals (as.map V.ref) (as.map Value.ref) := by
    clear nda pr tup below hG hl
    induction as with
    | nil => exact .nil
    | cons b bs ih => exact .cons rfl ih
  have I3 := I2.lnew (t' := tk) lv (by rw [List.length_map, hl, lsz]; exact z)
  -- the pairs' ints
  have tp : ∀ b ∈ as, ∃ (j : Nat) (x : Int × Int), as[j]? = some b ∧ es[j]? = some x ∧ H2 b = some (.tup [.int x.1, .int x.2]) := fun b hb => by
    obtain ⟨ws, ⟨j, x, h1, h2, rfl⟩, e⟩ := tup b hb
    exact ⟨j, x, h1, h2, e⟩
  refine wpAny_mono (mt_sortPO (X := inX X) pins _ σ _ (.ref h'.objs.size) [] (.ref h'.objs.size) [] (fun v H4 => v = .non ∧ ∃ zs, SrtO.Srtd (ltP (kOf H2)) zs ∧ SrtO.Stb (ltP (kOf H2)) zs (as.map V.ref) ∧ H4 = upd (upd H2 h'.objs.size (.lst (as.map V.ref))) h'.objs.size (.lst zs)) (inv_in I3) rfl .nil
    ⟨h'.objs.size, as.map V.ref, kOf H2, rfl, rfl, upd_same, fun y hy => ?_, fun zs h1 h2 => ⟨rfl, zs, h1, h2, rfl⟩⟩) (fun u s' hq => ?_) fun _ _ z => z
  · obtain ⟨b, hb, rfl⟩ := List.mem_map.mp hy
    obtain ⟨j, x, _, _, e⟩ := tp b hb
    refine ⟨b, rfl, ?_⟩
    rw [upd_ne (below b hb), kOf_at e]
    exact e
  · obtain ⟨v, H4, I4, rv, rfl, zs, h1, h2, rfl⟩ := hq
    have mem : ∀ y ∈ zs, ∃ b ∈ as, y = V.ref b := fun y hy => by
      obtain ⟨b, hb, e⟩ := List.mem_map.mp (h2.perm.mem_iff.mp hy)
      exact ⟨b, hb, e.symm⟩
    -- zs as addresses
    let f : V → Addr × Int × Int := fun y => match y with | .ref b => (b, kOf H2 (.ref b)) | _ => (0, 0, 0)
    have fz : ∀ y ∈ zs, V.ref (f y).1 = y := fun y hy => by obtain ⟨b, _, rfl⟩ := mem y hy; rfl
    have perm : ((zs.map f).map (·.2)).Perm es := by
      have e1 : ((as.map V.ref).map f).map (·.2) = es := by
        apply List.ext_getElem?
        intro j
        simp only [List.map_map, List.getElem?_map]
        cases ej : as[j]? with
        | none =>
          have : es.length ≤ j := by rw [← lsz, ← hl]; exact List.getElem?_eq_none_iff.mp ej
          rw [List.getElem?_eq_none this]; rfl
        | some b =>
          obtain ⟨x, t, u, hx, _⟩ := pr j b ej
          obtain ⟨j2, x2, g1, g2, g3⟩ := tp b (List.mem_of_getElem? ej)
          have : j2 = j := (List.getElem?_inj (List.getElem?_eq_some_iff.mp g1).1 nda).mp (g1.trans ej.symm)
          subst this
          rw [g2] at hx; cases hx
          rw [g2]
          show some (kOf H2 (.ref b)) = some _
          rw [kOf_at g3]
      rw [← e1]
      exact (h2.perm.map f).map _
    refine ⟨.ref h'.objs.size, _, inv_out I4, rfl, q _ _ (zs.map f) (fun b o e => ?_) (by
        cases e : H h'.objs.size with
        | none => rfl
        | some o => rw [sm _ _ e] at fresh; cases fresh) (fun z hz => ?_) perm ?_ ?_ fun z hz => ?_⟩
    · have n : b ≠ h'.objs.size := fun e2 => by rw [← e2, sm _ _ e] at fresh; cases fresh
      rw [upd_ne n, upd_ne n]; exact sm _ _ e
    · obtain ⟨y, hy, rfl⟩ := List.mem_map.mp hz
      obtain ⟨b, hb, rfl⟩ := mem y hy
      exact ⟨below b hb, I.hok.fresh (Nat.le_of_lt (hG.above b hb))⟩
    · rw [List.pairwise_map, List.pairwise_map]
      refine List.Pairwise.imp_of_mem (fun {x y} hx hy h => ?_) h1
      obtain ⟨b, _, rfl⟩ := mem x hx
      obtain ⟨c, _, rfl⟩ := mem y hy
      have h := SrtO.lexB_no.mp h
      show (kOf H2 (.ref b)).1 < (kOf H2 (.ref c)).1 ∨ ((kOf H2 (.ref b)).1 = (kOf H2 (.ref c)).1 ∧ (kOf H2 (.ref b)).2 ≤ (kOf H2 (.ref c)).2)
      omega
    · rw [upd_same, List.map_map]
      congr 2
      apply List.ext_getElem?
      intro j
      rw [List.getElem?_map]
      cases ej : zs[j]? with
      | none => rfl
      | some y => exact congrArg some (fz y (List.mem_of_getElem? ej)).symm
    · obtain ⟨y, hy, rfl⟩ := List.mem_map.mp hz
      obtain ⟨b, hb, rfl⟩ := mem y hy
      obtain ⟨j, x, _, _, e⟩ := tp b hb
      show (upd _ _ _) b = some (.tup [.int (kOf H2 (.ref b)).1, .int (kOf H2 (.ref b)).2])
      rw [upd_ne (below b hb), upd_ne (below b hb), kOf_at e]
      exact e
end
end DL
namespace DL
open PySem PySem.Spec L2 C8
/-! ### dicts with keys that are ints or texts -/
def keyD : D → Option Key
  | .int i => some (.inl i)
  | .str s => some (.inr s)
  | _ => none
def valD (kvs : List (Key × D)) (k : Key) : Option D := (kvs.find? fun kv => decide (kv.1 = k)).map (·.2)
def putD (kvs : List (Key × D)) (k : Key) (v : D) : List (Key × D) :=
  if (kvs.any fun kv => decide (kv.1 = k)) = true then kvs.map (fun kv => if kv.1 = k then (kv.1, v) else kv) else kvs ++ [(k, v)]
def dkOf (h : AH) : D → Option (List (Key × D))
  | .dK xs => some xs
  | .ref a => match h a with
    | some (.dK xs) => some xs
    | _ => none
  | _ => none
section
variable {K : PySem.W.Frag} {F : Hp} {h : AH} {H : Hp} {d : D} {v : V}
theorem RepK.val : ∀ {kvs : List (Key × D)} {vs : List (Key × V)}, RepK K F kvs vs → ∀ k : Key, (valD kvs k = none ∧ valV vs k = none) ∨ ∃ d v, valD kvs k = some d ∧ valV vs k = some v ∧ Rep K F d v
  | _, _, .nil, k => .inl ⟨rfl, rfl⟩
  | _, _, @RepK.cons _ _ k0 x u xs us r t, k => by
    by_cases c : k0 = k
    · subst c
      exact .inr ⟨x, u, by simp [valD], by simp [valV], r⟩
    · have e1 : valD ((k0, x) :: xs) k = valD xs k := by simp [valD, List.find?_cons, c]
      have e2 : valV ((k0, u) :: us) k = valV us k := by simp [valV, List.find?_cons, c]
      rw [e1, e2]
      exact RepK.val t k
theorem RepK.append : ∀ {xs ys : List (Key × D)} {vs ws : List (Key × V)}, RepK K F xs vs → RepK K F ys ws → RepK K F (xs ++ ys) (vs ++ ws)
  | _, _, _, _, .nil, s => s
  | _, _, _, _, .cons h t, s => .cons h (RepK.append t s)
theorem RepK.any : ∀ {kvs : List (Key × D)} {vs : List (Key × V)}, RepK K F kvs vs → ∀ k : Key, (kvs.any fun kv => decide (kv.1 = k)) = (vs.any fun kv => decide (kv.1 = k))
  | _, _, .nil, _ => rfl
  | _, _, .cons _ t, k => by simp only [List.any_cons]; rw [RepK.any t k]
theorem RepK.repl {k : Key} {x : D} {u : V} (r : Rep K F x u) : ∀ {kvs : List (Key × D)} {vs : List (Key × V)}, RepK K F kvs vs → RepK K F (kvs.map fun kv => if kv.1 = k then (kv.1, x) else kv) (vs.map fun kv => if kv.1 = k then (kv.1, u) else kv)
  | _, _, .nil => .nil
  | _, _, @RepK.cons _ _ k0 y w ys ws q t => by
    simp only [List.map_cons]
    by_cases c : k0 = k
    · rw [if_pos c, if_pos c]; exact .cons r (RepK.repl r t)
    · rw [if_neg c, if_neg c]; exact .cons q (RepK.repl r t)
theorem RepK.put {kvs : List (Key × D)} {vs : List (Key × V)} (t : RepK K F kvs vs) (k : Key) {x : D} {u : V} (r : Rep K F x u) : RepK K F (putD kvs k x) (putK vs k u) := by
  unfold putD putK
  rw [t.any k]
  split
  · exact RepK.repl r t
  · exact t.append (.cons r .nil)
theorem keyD_to {d : D} {v : V} {k : Key} (r : Rep K F d v) (e : keyD d = some k) : v = kV k := by
  cases r <;> first | (simp [keyD] at e; done) | (simp only [keyD, Option.some.injEq] at e; subst e; rfl)
theorem Sim.dkOf {kvs : List (Key × D)} (S : Sim K F h H) (r : Rep K F d v) (e : DL.dkOf h d = some kvs) : ∃ a vs, v = .ref a ∧ H a = some (.dK vs) ∧ RepK K F kvs vs := by
  cases r with
  | ref a =>
    cases q : h a with
    | none => simp [DL.dkOf, q] at e
    | some o =>
      cases o with
      | dK ys =>
        simp only [DL.dkOf, q, Option.some.injEq] at e
        subst e
        obtain ⟨_, u, hu, vs, rfl, rs⟩ := S.ob _ _ q
        exact ⟨a, vs, rfl, hu, rs⟩
      | lst _ => simp [DL.dkOf, q] at e
      | dT _ => simp [DL.dkOf, q] at e
      | ins _ _ => simp [DL.dkOf, q] at e
      | lck _ => simp [DL.dkOf, q] at e
      | lckK _ _ => simp [DL.dkOf, q] at e
      | tab _ => simp [DL.dkOf, q] at e
  | @dK a ys vs hf rs =>
    cases e
    exact ⟨a, vs, rfl, S.fz _ _ hf, rs⟩
  | non => cases e
  | bl _ => cases e
  | int _ => cases e
  | str _ => cases e
  | ty _ => cases e
  | lk _ _ => cases e
  | ob _ _ => cases e
  | xob0 _ => cases e
  | lam _ _ => cases e
  | xob _ _ _ => cases e
  | tup _ _ => cases e
  | tpl _ _ _ => cases e
  | lst _ _ => cases e
  | dT _ _ => cases e
/-- what stands anew behind a call is taken as what does not change -/
theorem Sim.grow {H' : Hp} (S : Sim K F h H) (sm : ∀ b o, H b = some o → H' b = some o) (P : Addr → Bool) : ∃ F', Ext F F' ∧ Sim K F' h H' ∧ (∀ b, H b = none → P b = true → F' b = H' b) ∧ ∀ b, H b = none → P b = false → ∀ o, F' b ≠ some o := by
  refine ⟨fun b => if (H b).isNone = true ∧ P b = true then H' b else F b, fun b o e => ?_, ⟨fun b o e => ?_, fun b o e => ?_⟩, fun b e p => ?_, fun b e p o q => ?_⟩
  · have : H b = some o := S.fz _ _ e
    show (if (H b).isNone = true ∧ P b = true then H' b else F b) = some o
    rw [this]; simp [e]
  · split at e
    · exact e
    · exact sm _ _ (S.fz _ _ e)
  · obtain ⟨f, u, hu, r⟩ := S.ob _ _ e
    refine ⟨by simp [hu, f], u, sm _ _ hu, r.ext fun c w q => ?_⟩
    have : H c = some w := S.fz _ _ q
    simp [this, q]
  · simp [e, p]
  · simp [p, (S.free e).1] at q
end
section
variable {X : Cx} {E : XK} {k : Nat} {o i e f value : Expr} {wo wi we wf wv : WE} {pos cpos apos pos' p : Pos}
def wDnew : WE := fun _ h Q _ => ∀ p, h p = none → Q (.ref p) (up h p (.dK []))
theorem ae_dnew : AE X E (.Dict [] [] pos) wDnew := by
  refine ⟨PE.imp pe_dnewK fun σ H Q ⟨F, ρ, h, S, R, q⟩ => ?_, fun ρ h Q Q' X X' hq _ q p e => hq _ _ (q p e)⟩
  intro p hp
  obtain ⟨f, g⟩ := S.free hp
  exact q p g F _ _ (.refl F) (S.newM hp (o := .dK []) ⟨[], rfl, .nil⟩) (.ref p)
/-- d.get(k, x) -/
def wGet2 (wo wi wx : WE) : WE := fun ρ h Q X => wo ρ h (fun x h1 => (dkOf h1 x).isSome = true ∧ wi ρ h1 (fun y h2 => wx ρ h2 (fun z h3 => ∃ kvs k, dkOf h3 x = some kvs ∧ keyD y = some k ∧ Q ((valD kvs k).getD z) h3) X) X) X
/-- d[k] -/
def wDGet (wo wi : WE) : WE := fun ρ h Q X => wo ρ h (fun x h1 => wi ρ h1 (fun y h2 => ∃ kvs k d, dkOf h2 x = some kvs ∧ keyD y = some k ∧ valD kvs k = some d ∧ Q d h2) X) X
/-- d[k] = v -/
def wDput (wo wi wv : WE) : WS := fun D ρ h => wv ρ h (fun z h1 => wo ρ h1 (fun x h2 => wi ρ h2 (fun y h3 => ∃ a kvs k, x = .ref a ∧ h3 a = some (.dK kvs) ∧ keyD y = some k ∧ kvs.length < sizeLine ∧ D.nx ρ (up h3 a (.dK (putD kvs k z)))) D.ex) D.ex) D.ex
theorem as_dput (c : Cg gz X E k) (ho : AE X E o wo) (hi : AE X E i wi) (hv : AE X E value wv) (hs : swapsWith value (some (.Subscript o i pos')) pos.line X.env = pure false := by rfl) : AS X E (.Assign [.Subscript o i pos'] value pos) (wDput wo wi wv) := by
  refine ⟨PS.imp (ps_dput (hu_of c.room) ho.run hi.run hv.run hs) fun D σ H ⟨F, ρ, h, S, R, q⟩ => ?_, fun D D' ρ h l q => hv.mo _ _ _ _ _ _ (fun z h1 q => ho.mo _ _ _ _ _ _ (fun x h2 q => hi.mo _ _ _ _ _ _ (fun y h3 ⟨a, kvs, k, e1, e2, e3, e4, q⟩ => ⟨a, kvs, k, e1, e2, e3, e4, l.nx _ _ q⟩) l.ex q) l.ex q) l.ex q⟩
  refine ⟨F, ρ, h, S, R, hv.mo _ _ _ _ _ _ (fun z h1 q => ?_) (fun _ _ z => z) q⟩
  intro F1 H1 vz e1 S1 rz
  refine ⟨F1, ρ, h1, S1, R.ext e1, ho.mo _ _ _ _ _ _ (fun x h2 q => ?_) (fun _ _ z => LX.ext e1 z) q⟩
  intro F2 H2 vx e2 S2 rx
  refine ⟨F2, ρ, h2, S2, R.ext (e1.trans e2), hi.mo _ _ _ _ _ _ (fun y h3 q => ?_) (fun _ _ z => LX.ext (e1.trans e2) z) q⟩
  intro F3 H3 vy e3 S3 ry
  obtain ⟨a, kvs, kk, rfl, ea, ey, l, q⟩ := q
  have rx := rx.ext e3
  cases rx
  obtain ⟨_, u, hu, vs, rfl, rs⟩ := S3.ob _ _ ea
  have hy := keyD_to ry ey
  subst hy
  exact ⟨a, _, rfl, .inl ⟨vs, kk, hu, rfl, by rw [← rs.length]; exact l, rfl⟩, q F3 _ σ (e1.trans (e2.trans e3)) (S3.put ea (o := .dK (putD kvs kk z)) ⟨_, rfl, rs.put kk (rz.ext (e2.trans e3))⟩) (R.ext (e1.trans (e2.trans e3)))⟩
/-! ### sorted(d.items()), ints to ints -/
def pairD (e : Int × Int) : D := .tup [.int e.1, .int e.2]
def lexLe (e f : Int × Int) : Prop := e.1 < f.1 ∨ (e.1 = f.1 ∧ e.2 ≤ f.2)
def wSortIt (m : Bool) (wo : WE) : WE := fun ρ h Q X => wo ρ h (fun x h1 => ∃ (a : Addr) (es : List (Int × Int)), x = .ref a ∧ h1 a = some (.dK (es.map fun e : Int × Int => ((Sum.inl e.1 : Key), D.int e.2))) ∧ ∀ zs : List (Int × Int), zs.Perm es → zs.Pairwise lexLe → newL m (zs.map pairD) h1 Q) X
theorem repk_ints {K : PySem.W.Frag} {F : Hp} : ∀ {es : List (Int × Int)} {vs : List (Key × V)}, RepK K F (es.map fun e : Int × Int => ((Sum.inl e.1 : Key), D.int e.2)) vs → vs = es.map fun e => (Sum.inl e.1, V.int e.2)
  | [], _, .nil => rfl
  | e :: es, _, .cons r t => by cases r; rw [repk_ints t]; rfl
theorem ae_sortIt (m : Bool) {pn : Pos} (hm : X.mg "sorted" = none) (c : Cg gz X E k) (ho : AE X E o wo) (hg : Gl X "sorted" := by rfl)
    (hbase : attributeBase o "items" X.env (eval o X.env) = eval o X.env := by rfl)
    (hline : (apos.endLine == cpos.line) = true := by rfl)
    (hst : starEach [Expr.Call (.Attribute o "items" apos) [] [] cpos] X.env = (false, eval (.Call (.Attribute o "items" apos) [] [] cpos) X.env) :: starEach [] X.env := by rfl)
    (hpl : (backTo pos (starEach [] X.env)).any (·.1) = false := by rfl) :
    AE X E (.Call (.Name "sorted" pn) [.Call (.Attribute o "items" apos) [] [] cpos] [] pos) (wSortIt m wo) := by
  have P1 := pe_bm0 (cpos := cpos) (apos := apos) PySem.F.plainAttrs_dict PySem.F.slot_dict_items PySem.F.type_dict_items (mt_itemsV (X := X)) ho.run hbase hline
  have P2 := pe_callB (pos := pos) (p := pn) (cr_sortIt c.calm) hg hm PyProof.Rows.boot_sorted (pa_cons P1 pa_nil hst) (he := hst) (hpl := hpl)
  refine ⟨PE.imp P2 fun σ H Q ⟨F, ρ, h, S, R, q⟩ => ?_, fun ρ h Q Q' X X' hq hx q => ho.mo _ _ _ _ _ _ (fun x h1 ⟨a, es, e1, e2, z⟩ => ⟨a, es, e1, e2, fun zs p1 p2 => newL_mo hq (z zs p1 p2)⟩) hx q⟩
  refine ⟨F, ρ, h, S, R, ho.mo _ _ _ _ _ _ (fun x h1 z => ?_) (fun _ _ z => z) q⟩
  intro F1 H1 v e1 S1 r
  obtain ⟨a, es, rfl, ea, z⟩ := z
  cases r
  obtain ⟨_, u, hu, vs, rfl, rs⟩ := S1.ob _ _ ea
  rw [repk_ints rs] at hu
  refine ⟨.inr (.inr (.inl ⟨rfl, .inl ⟨_, hu⟩⟩)), a, _, rfl, rfl, hu, fun p hp => ?_⟩
  have na : a ≠ p := by rintro rfl; rw [hu] at hp; cases hp
  refine ⟨p, a, es, rfl, upd_same, by rw [upd_ne na]; exact hu, fun H' l ps sm hl nl perm pw hL hT => ?_⟩
  have sm1 : ∀ b o, H1 b = some o → H' b = some o := fun b o e => sm b o (by rw [upd_ne (by rintro rfl; rw [hp] at e; cases e)]; exact e)
  have hl1 : H1 l = none := by
    by_cases c : l = p
    · rw [c]; exact hp
    · rw [upd_ne c] at hl; exact hl
  have z := newL_mo (fun _ _ z => LQ.ext e1 z) (z _ perm pw)
  -- all that is new but the list
  obtain ⟨F2, x2, S2, g2, g3⟩ := S1.grow sm1 (fun b => decide (b ≠ l))
  have hT2 : ∀ z ∈ ps, F2 z.1 = some (.tup [.int z.2.1, .int z.2.2]) := fun z hz => by
    obtain ⟨n1, n2⟩ := nl z hz
    have n3 : H1 z.1 = none := by
      by_cases c : z.1 = p
      · rw [c]; exact hp
      · rw [upd_ne c] at n2; exact n2
    exact (g2 _ n3 (by simpa using n1)).trans (hT z hz)
  have rsT : ∀ {F3 : Hp} (qs : List (Addr × Int × Int)), (∀ z ∈ qs, F3 z.1 = some (.tup [.int z.2.1, .int z.2.2])) → Reps X.K F3 ((qs.map (·.2)).map pairD) (qs.map fun z => V.ref z.1) := by
    intro F3 qs
    induction qs with
    | nil => intro _; exact .nil
    | cons z qs ih => intro hz; exact .cons (.tup (.of (hz z (List.mem_cons_self ..))) (.cons (.int _) (.cons (.int _) .nil))) (ih fun w hw => hz w (List.mem_cons_of_mem _ hw))
  have f2 : F2 l = none := by
    cases e : F2 l with
    | none => rfl
    | some o => exact absurd e (g3 l hl1 (by simp) o)
  obtain ⟨_, hl2⟩ := S1.free hl1
  cases m with
  | true =>
    refine z l hl2 F2 H' _ x2 ⟨fun b o e => S2.fz _ _ e, fun b o e => ?_⟩ (.ref l)
    by_cases c : b = l
    · subst c; rw [up_same] at e; cases e
      exact ⟨f2, _, hL, _, rfl, rsT ps hT2⟩
    · rw [up_ne c] at e; exact S2.ob _ _ e
  | false =>
    have x3 : Ext F2 (upd F2 l (.lst (ps.map fun z => V.ref z.1))) := ext_upd f2
    refine z (upd F2 l (.lst (ps.map fun z => V.ref z.1))) H' _ (x2.trans x3) ⟨fun b o e => ?_, fun b o e => ?_⟩ (.lst upd_same (rsT ps fun z hz => x3 _ _ (hT2 z hz)))
    · by_cases c : b = l
      · subst c; rw [upd_same] at e; cases e; exact hL
      · rw [upd_ne c] at e; exact S2.fz _ _ e
    · obtain ⟨f, u, hu, r⟩ := S2.ob _ _ e
      refine ⟨?_, u, hu, r.ext x3⟩
      have c : b ≠ l := by rintro rfl; rw [hl2] at e; cases e
      rw [upd_ne c]; exact f
end
end DL
namespace PySem
end PySem
namespace DL
open PySem PySem.Spec L2 C8
/-! ### enumerate(tuple) -/
/-! ### their readings as data -/
def numD (xs : List D) : List D := (List.range xs.length).zipWith (fun i x => .tup [.int (i : Nat), x]) xs
section
variable {K : PySem.W.Frag} {F : Hp} {a : Addr} {xs : List D} {vs : List V}
def stepD (lo c : Int) (n : Nat) : List D := (List.range n).map fun i => D.int (lo + (i : Nat) * c)
end
section
variable {X : Cx} {E : XK} {tg e : Expr} {wl : WA} {p pos tpos : Pos} {elts : List Expr} {kk : Nat}
/-- enumerate of a tuple, or of a list as it stands -/
def iNum (wl : WA) : WI := fun ρ h R X => wl ρ h (fun ds h1 => match ds with
  | [.tup xs] => R (numD xs) (fun _ => True) h1
  | _ => False) X
def iRng3 (wl : WA) : WI := fun ρ h R X => wl ρ h (fun ds h1 => match ds with
  | [.int i, .int j, .int c] => ∃ n, RgC i j c n ∧ R (stepD i c n) (fun _ => True) h1
  | _ => False) X
end
end DL
namespace DL
open PySem PySem.Spec L2 C8
/-! ### x in (a, b): flat data -/
def eqFD : D → D → Bool
  | .non, .non => true
  | .bl a, .bl b => a == b
  | .bl a, .int b => (if a then 1 else 0) == b
  | .int a, .bl b => a == (if b then 1 else 0)
  | .int a, .int b => a == b
  | .str a, .str b => a == b
  | _, _ => false
def inD (x : D) (ys : List D) : Bool := ys.any fun y => eqFD y x
section
variable {X : Cx} {E : XK} {k : Nat} {a b e : Expr} {es : List Expr} {wa wb wx : WE} {wl wk : WA} {pos kpos : Pos} {kws : List Keyword} {nm : Option Str}
/-! ### keywords -/
structure AK (X : Cx) (E : XK) (kws : List Keyword) (w : WA) : Prop where
  run : PK X kws (tA X.K E w)
  mo : MoA w
theorem PK.imp {t t' : TA} (p : PK X kws t) (h : ∀ σ H Q, t' σ H Q → t σ H Q) : PK X kws t' := ⟨fun pos pins s σ H Q I q => p.run pos pins s σ H Q I (h _ _ _ q)⟩
theorem ak_nil : AK X E [] wNil := ⟨PK.imp pk_nil fun σ H Q ⟨F, ρ, g, S, R, q⟩ => q F H [] (.refl F) S .nil, fun ρ h Q Q' X X' hq hx q => hq _ _ q⟩
theorem ak_cons (ha : AE X E e wx) (hr : AK X E kws wk) : AK X E (⟨nm, e, kpos⟩ :: kws) (wCons wx wk) := by
  refine ⟨PK.imp (pk_cons ha.run hr.run) fun σ H Q ⟨F, ρ, g, S, R, q⟩ => ?_, fun ρ h Q Q' X X' hq hx q => ha.mo _ _ _ _ _ _ (fun x h1 z => hr.mo _ _ _ _ _ _ (fun xs h2 z => hq _ _ z) hx z) hx q⟩
  refine ⟨F, ρ, g, S, R, ha.mo _ _ _ _ _ _ (fun x h1 z => ?_) (fun _ _ z => z) q⟩
  intro F1 H1 v e1 S1 r
  refine ⟨F1, ρ, h1, S1, R.ext e1, hr.mo _ _ _ _ _ _ (fun xs h2 z => ?_) (fun _ _ z => LX.ext e1 z) z⟩
  intro F2 H2 vs e2 S2 rs
  exact z F2 H2 _ (e1.trans e2) S2 (.cons (r.ext e2) rs)
end
/-- the parameters' values, picked from the positional ones and the keywords' -/
def pickD (ix : List Nat) (ds zs : List D) : List D := ix.map fun i => ((ds ++ zs)[i]?).getD .non
theorem Bnd.pick {K : PySem.W.Frag} {fd : FuncData} {ps : List Str} {n : Nat} {ks : List Str} (ix : List Nat) (hi : ∀ i ∈ ix, i < n + ks.length)
    (h : ∀ us ws : List Value, us.length = n → ws.length = ks.length → bindArgs fd ⟨us, ks.zip ws⟩ = pure (ps.zip (ix.map fun i => ((us ++ ws)[i]?).getD .none))) : Bnd K fd ps n ks (pickD ix) := by
  refine ⟨fun s F ds zs vs ys us ws X l1 l2 r1 r2 r3 r4 => ⟨ix.map fun i => ((vs ++ ys)[i]?).getD .non, ix.map fun i => ((us ++ ws)[i]?).getD .none, ?_, ?_, .of_eq (h us ws (by rw [← r2.length, ← r1.length]; exact l1) (by rw [← r4.length, ← r3.length]; exact l2))⟩⟩
  · have r := r1.append r3
    have l : (ds ++ zs).length = n + ks.length := by simp [l1, l2]
    clear h
    unfold pickD
    induction ix with
    | nil => exact .nil
    | cons i ix ih =>
      have li : i < (ds ++ zs).length := by rw [l]; exact hi i (List.mem_cons_self ..)
      obtain ⟨v, hv, rv⟩ := r.get (List.getElem?_eq_getElem li)
      refine .cons ?_ (ih fun j hj => hi j (List.mem_cons_of_mem _ hj))
      show _
      simp only [hv, List.getElem?_eq_getElem li]
      exact rv
  · have r := r2.append r4
    have l : (vs ++ ys).length = n + ks.length := by simp [← r1.length, ← r3.length, l1, l2]
    clear h
    induction ix with
    | nil => exact .nil
    | cons i ix ih =>
      have li : i < (vs ++ ys).length := by rw [l]; exact hi i (List.mem_cons_self ..)
      obtain ⟨v, hv, rv⟩ := r.get (List.getElem?_eq_getElem li)
      refine .cons ?_ (ih fun j hj => hi j (List.mem_cons_of_mem _ hj))
      show _
      simp only [hv, List.getElem?_eq_getElem li]
      exact rv
end DL
namespace DL
open PySem PySem.Spec L2 C8 PyProof.Rows
/-! ### the law is called -/
section
variable {P : Program} {w : World} {K : PySem.W.Frag} {mg bm : Str → Option Value} {k : Nat} {fa q : Addr} {fd : FuncData} {x : Str} {S : FSpec} {t : Shared} {us : List Value} {js : List Int}
/-- what is tracked at the start: the script at most -/
structure Beg (K : PySem.W.Frag) (P : Program) (w : World) (H : Hp) (hp : Heap) (q : Addr) (js : List Int) : Prop where
  sq : SqL K H q (js.map V.int)
  ok : HOk P w H hp
  at_ : ∀ b, H b ≠ none → b = q
  out : H q ≠ none → K.lookup q = none
  fz : ∀ b, H b = none ∨ ∃ ob ys, H b = some (.frz ob (.lst ys))
theorem beg_of (KX : K.In t.heap) (hq : t.heap.get? q = some { cls := .type "list", data := .seq us.toArray }) (ia : IntsAre us js) (lj : js.length ≤ sizeLine) : ∃ H, Beg K P w H t.heap q js := by
  have rv := vals_ints ia
  have el := ia.length
  cases kq : K.lookup q with
  | some ob =>
    have e := (KX q ob kq).symm.trans hq
    obtain rfl := Option.some.inj e
    refine ⟨fun _ => none, .inr ⟨_, _, _, kq, rfl, rfl, rfl, ?_, by simpa using rv⟩, fun b u z => ?_, fun b z => absurd rfl z, fun z => absurd rfl z, fun b => .inl rfl⟩
    · rw [List.size_toArray, el]; exact lj
    · exact absurd (show (none : Option HO) = some u from z) (by simp)
  | none =>
    have tr : ∀ b : Addr, (if b = q then some (HO.frz { cls := .type "list", data := .seq us.toArray } (.lst (js.map V.int))) else none : Option HO) ≠ none → b = q := fun b z => by
      by_cases c : b = q
      · exact c
      · exact absurd (if_neg c) z
    refine ⟨fun b => if b = q then some (.frz { cls := .type "list", data := .seq us.toArray } (.lst (js.map V.int))) else none, .inl (.inr ⟨_, if_pos rfl⟩), fun b u z => ?_, tr, fun _ => kq, fun b => ?_⟩
    · have c : b = q := tr b (by intro n; exact absurd (n.symm.trans z) (by simp))
      subst c
      obtain rfl := Option.some.inj ((if_pos rfl).symm.trans z)
      exact ⟨hq, by rw [List.length_map]; exact lj, us, _, rv, hq⟩
    · by_cases c : b = q
      · exact .inr ⟨_, _, if_pos c⟩
      · exact .inl (if_neg c)
end
end DL
namespace Hx
open PySem PySem.Spec PyProof.Rows L2 DL
abbrev Fr := PySem.W.Frag
/-! ### what stands where, by names -/
/-- the object that a slot holds -/
def rf (v : Option (Option Value)) : Addr := match v with
  | some (some (.ref a)) => a
  | _ => 0
def tk (v : Option (Option Value)) : Tok := match v with
  | some (some (.int _ t)) => t
  | some (some (.str _ t)) => t
  | _ => 0
/-- the module's name, a class's name -/
def gl (K : Fr) (x : Str) : Addr := rf (PySem.W.nsIn K mainGlobals x)
def me (K : Fr) (C : Addr) (m : Str) : Addr := rf (PySem.W.findIn K (.ref C) m)
def rh (K : Fr) (p : Addr) (T : String) : Addr := match PySem.W.recIn K p T with
  | some (.ref f :: _) => f
  | _ => 0
def rt (K : Fr) (p : Addr) (T : String) : List Value := match PySem.W.recIn K p T with
  | some (_ :: r) => r
  | _ => []
/-! a function's parts -/
def fd? (K : Fr) (a : Addr) : Option FuncData := match K.lookup a with
  | some ⟨_, _, .func fd, _⟩ => some fd
  | _ => none
def oc (K : Fr) (a : Addr) : Value := match K.lookup a with
  | some o => o.cls
  | none => .none
def od (K : Fr) (a : Addr) : Option Addr := match K.lookup a with
  | some o => o.dict
  | none => none
def sl (K : Fr) (a : Addr) : Array (Option Value) := match K.lookup a with
  | some o => o.slots
  | none => #[]
def fv (p : FuncData → Value) (K : Fr) (a : Addr) : Value := match fd? K a with
  | some fd => p fd
  | none => .none
def kv (K : Fr) (a : Addr) : Value := fv (·.kwdefaults) K a
def kd (K : Fr) (a : Addr) : Addr := match kv K a with
  | .ref d => d
  | _ => 0
abbrev FnU := Option (Str × Str × Arguments × FuncBody × Scope × Addr × List (Str × Addr) × Value × Addr)
def fnU (df : Bool) (K : Fr) (a : Addr) : FnU := match fd? K a with
  | some fd => some (fd.name, fd.qualname, fd.params, fd.body, fd.scope, fd.globals, fd.closure, if df then .none else fd.defaults, fd.builtins)
  | none => none
/-- one def: where it stands, its name, qualified name, parameters, body, scope -/
structure FnX where
  at_ : Fr → Addr
  name : Str
  qual : Str
  st : Stmt
  df : Bool
def FnX.val (d : FnX) : FnU := some (d.name, d.qual, defArgs d.st, .stmts (defBody d.st), defScope d.st, mainGlobals, [], .none, builtinsNs)
theorem fn_at {K : Fr} {a : Addr} {x q : Str} {st : Stmt} (e : fnU false K a = some (x, q, defArgs st, .stmts (defBody st), defScope st, mainGlobals, [], .none, builtinsNs)) :
    K.lookup a = some ⟨oc K a, od K a, .func (PySem.W.fnOf x q (defArgs st) (defBody st) (defScope st) .none (kv K a) (fv (·.doc) K a) (fv (·.pyModule) K a) (match fd? K a with | some fd => fd.annotations | none => none) (fv (·.code) K a) (fv (·.closureTuple) K a)), sl K a⟩ := by
  unfold oc od sl kv fv
  cases l : K.lookup a with
  | none => unfold fnU fd? at e; rw [l] at e; cases e
  | some o =>
    obtain ⟨c, d, dt, sls⟩ := o
    cases dt with
    | func fd =>
      have ef : fd? K a = some fd := by unfold fd?; rw [l]
      unfold fnU at e
      rw [ef] at e ⊢
      obtain ⟨n1, n2, n3, n4, n5, n6, n7, n8, n9, n10, n11, n12, n13, n14, n15⟩ := fd
      simp only [Option.some.injEq, Prod.mk.injEq] at e
      obtain ⟨h1, h2, h3, h4, h5, h6, h7, h8, h9⟩ := e
      replace h8 : _ = Value.none := h8
      simp only [Bool.false_eq_true, if_false] at h8
      subst h1 h2 h3 h4 h5 h6 h7 h8 h9
      rfl
    | _ => unfold fnU fd? at e; rw [l] at e; cases e
def an (K : Fr) (a : Addr) : Option Addr := match fd? K a with
  | some fd => fd.annotations
  | none => none
/-! ### the Hook -/
abbrev AlX : Type := Bool × List FnU
def obX (ts : List (List (Fr → Bool))) (fn : List FnX) (K : Fr) : AlX := (ts.all fun l => l.all fun t => t K, fn.map fun d => fnU d.df K (d.at_ K))
def vaX (fn : List FnX) : AlX := (true, fn.map FnX.val)
def SaX (ts : List (List (Fr → Bool))) (fn : List FnX) (K : Fr) : Prop := obX ts fn K = vaX fn
/-- all objects, the module's names first, the newest next -/
def allA (no : List Addr) (g : Addr → Option Obj) : Nat → List Addr
  | 0 => []
  | n + 1 => match g n with
    | some ⟨.none, _, .fields _, _⟩ => allA no g n
    | some _ => n :: allA no g n
    | none => allA no g n
def frX (N : Nat) (no : List Addr) (g : Addr → Option Obj) : Fr := He.frG g (mainGlobals :: allA no g N)
def hookX (N : Nat) (no : List Addr) (ts : List (List (Fr → Bool))) (fn : List FnX) : PySem.W.Hook where
  α := AlX
  obs := fun s => obX ts fn (frX N no s.heap.get?)
  val := fun _ => vaX fn
  says := fun _ h => ∃ K : Fr, K.In h ∧ SaX ts fn K
  of := fun _ _ e => ⟨_, He.frG_in, e⟩
  keeps := fun _ _ _ ⟨K, hK, c⟩ k => ⟨K, PySem.W.Frag.In.keeps hK k, c⟩
def obT (N : Nat) (no : List Addr) (ts : List (List (Fr → Bool))) (fn : List FnX) (s : PySem.W.SharedT) : AlX := obX ts fn (frX N no (HandSHeadRun.getT s))
theorem obT_eq {N : Nat} {no : List Addr} {ts : List (List (Fr → Bool))} {fn : List FnX} (s : PySem.W.SharedT) : obT N no ts fn s = (hookX N no ts fn).obs s.abs := by
  have e : HandSHeadRun.getT s = s.abs.heap.get? := funext (HandSHeadRun.getT_eq s)
  unfold obT
  rw [e] <;> rfl
section
variable {ts : List (List (Fr → Bool))} {fn : List FnX} {K : Fr}
theorem SaX.t (c : SaX ts fn K) (i j : Nat) {l : List (Fr → Bool)} {f : Fr → Bool} (h : ts[i]? = some l) (h2 : l[j]? = some f) : f K = true := by
  have c1 : (ts.all fun l => l.all fun t => t K) = true := congrArg (fun z : AlX => z.1) c
  exact List.all_eq_true.mp (List.all_eq_true.mp c1 l (List.mem_of_getElem? h)) f (List.mem_of_getElem? h2)
theorem SaX.f (c : SaX ts fn K) (i : Nat) {d : FnX} (h : fn[i]? = some d) (hd : d.df = false := by rfl) :
    K.lookup (d.at_ K) = some ⟨oc K (d.at_ K), od K (d.at_ K), .func (PySem.W.fnOf d.name d.qual (defArgs d.st) (defBody d.st) (defScope d.st) .none (kv K (d.at_ K)) (fv (·.doc) K (d.at_ K)) (fv (·.pyModule) K (d.at_ K)) (an K (d.at_ K)) (fv (·.code) K (d.at_ K)) (fv (·.closureTuple) K (d.at_ K))), sl K (d.at_ K)⟩ := by
  have e : fn.map (fun d => fnU d.df K (d.at_ K)) = fn.map FnX.val := congrArg (fun z : AlX => z.2) c
  have e2 : (fn.map fun d => fnU d.df K (d.at_ K))[i]? = (fn.map FnX.val)[i]? := by rw [e]
  rw [List.getElem?_map, List.getElem?_map, h] at e2
  have e3 := Option.some.inj e2
  dsimp only at e3
  rw [hd] at e3
  exact fn_at e3
end
theorem fn_k {K : Fr} {a d : Addr} {x q : Str} {st : Stmt} {p1 p2 p4 p5 : Value} {p3 : Option Addr} {c : Value} {o : Option Addr} {z : Array (Option Value)} (h : K.lookup a = some ⟨c, o, .func (PySem.W.fnOf x q (defArgs st) (defBody st) (defScope st) .none (kv K a) p1 p2 p3 p4 p5), z⟩) (e : kv K a = .ref d) :
    K.lookup a = some ⟨c, o, .func (PySem.W.fnOf x q (defArgs st) (defBody st) (defScope st) .none (.ref d) p1 p2 p3 p4 p5), z⟩ := by
  rw [← e]; exact h
def cap (K : Fr) (a : Addr) : Nat := match K.lookup a with
  | some ⟨_, _, .seq _ n, _⟩ => n
  | _ => 0
/-! classes of errors -/
def cdOf (K : Fr) (a : Addr) : ClassData := match K.lookup a with
  | some ⟨_, _, .cls cd, _⟩ => cd
  | _ => default
def sk (K : Fr) (a : Addr) (i : Nat) : Option Value := ((sl K a).toList[i]?).getD none
def s4 (l : List (Option Value)) (n : String) : Bool := match l with
  | [_, _, _, _, some (.builtin m), _] => decide (m = n)
  | _ => false
theorem s4_at {l : List (Option Value)} {n : String} (h : s4 l n = true) : ∃ a b c d e, l = [a, b, c, d, some (.builtin n), e] := by
  unfold s4 at h
  split at h
  · obtain rfl := of_decide_eq_true h
    exact ⟨_, _, _, _, _, rfl⟩
  · cases h
def xcOk (K : Fr) (C : Addr) (n : String) : Bool := match K.lookup C with
  | some ⟨.type t, _, .cls cd, ss⟩ => decide (t = "type") && ((match cd.mro with
    | .ref c :: _ => decide (c = C)
    | _ => false) && (cd.hasDict && (!cd.hasDel && s4 ss.toList n)))
  | _ => false
theorem xc_at {K : Fr} {C : Addr} {n : String} (h : xcOk K C n = true) : K.lookup C = some (excClassObj (cdOf K C).name (cdOf K C).qualname C (cdOf K C).ns (cdOf K C).bases (cdOf K C).mro.tail true (cdOf K C).slotNames (cdOf K C).subclasses (cdOf K C).abstract (cdOf K C).collection (od K C) (sk K C 0) (sk K C 1) (sk K C 2) (sk K C 3) (sk K C 5) n) := by
  unfold xcOk at h
  unfold cdOf sk od sl
  cases l : K.lookup C with
  | none => rw [l] at h; cases h
  | some o =>
    rw [l] at h
    obtain ⟨c, d, dt, ss⟩ := o
    cases c with
    | type t =>
      cases dt with
      | cls cd =>
        obtain ⟨n1, n2, n3, n4, n5, n6, n7, n8, n9, n10, n11⟩ := cd
        simp only [Bool.and_eq_true, decide_eq_true_eq] at h
        obtain ⟨rfl, h2, h3, h4, h5⟩ := h
        cases n3 with
        | nil => cases h2
        | cons v r =>
          cases v with
          | ref c =>
            obtain rfl := of_decide_eq_true h2
            have h3 : n6 = true := h3
            have h4 : (!n11) = true := h4
            obtain ⟨ss⟩ := ss
            obtain ⟨a, b, c2, d2, e, h6⟩ := s4_at h5
            have h6 : ss = _ := h6
            subst h6
            cases n11 with
            | true => cases h4
            | false => subst h3; rfl
          | _ => cases h2
      | _ => cases h
    | _ => cases h
/-! code objects with tables -/
def cA (K : Fr) (a : Addr) : Addr := match fv (·.code) K a with
  | .ref c => c
  | _ => 0
theorem fn_c {K : Fr} {a d : Addr} {x q : Str} {st : Stmt} {k p1 p2 p5 : Value} {p3 : Option Addr} {c : Value} {o : Option Addr} {z : Array (Option Value)} (h : K.lookup a = some ⟨c, o, .func (PySem.W.fnOf x q (defArgs st) (defBody st) (defScope st) .none k p1 p2 p3 (fv (·.code) K a) p5), z⟩) (e : fv (·.code) K a = .ref d) :
    K.lookup a = some ⟨c, o, .func (PySem.W.fnOf x q (defArgs st) (defBody st) (defScope st) .none k p1 p2 p3 (.ref d) p5), z⟩ := by
  rw [← e]; exact h
def fl (K : Fr) (a : Addr) : Array Value := match K.lookup a with
  | some ⟨_, _, .fields vs, _⟩ => vs
  | _ => #[]
def flOk (K : Fr) (a : Addr) : Bool := match K.lookup a with
  | some ⟨_, _, .fields _, _⟩ => true
  | _ => false
theorem fl_at {K : Fr} {a : Addr} (h : flOk K a = true) : K.lookup a = some ⟨oc K a, od K a, .fields (fl K a), sl K a⟩ := by
  unfold flOk at h
  unfold oc od fl sl
  cases l : K.lookup a with
  | none => rw [l] at h; cases h
  | some o =>
    rw [l] at h
    obtain ⟨c, d, dt, ss⟩ := o
    cases dt with
    | fields vs => rfl
    | _ => cases h
def r11 (K : Fr) (a : Addr) : Addr := match ((fl K a)[11]? : Option Value) with
  | some (Value.ref t) => t
  | _ => 0
theorem no_at {K : Fr} {a : Addr} (h : (K.lookup a).isNone = true) : K.lookup a = none := Option.isNone_iff_eq_none.mp h
end Hx
/-! exceptions of own classes over any built-in one: made, with stored fields, raised -/
namespace DL
open PySem PySem.Spec L2 C8 PyProof.Rows
/-- what the written part says of an exception class -/
structure XCls (K : PySem.W.Frag) (C : Addr) : Prop where
  ex : ∃ (B newId initId : String) (tl bm bs sub : List Value) (nm q : Str) (N : Addr) (sn : List Str) (ab : Bool) (col : Option Bool) (dd : Option Addr) (k0 k1 k2 k3 k5 : Option Value),
    ExcBaseFacts B newId initId tl ∧ K.lookup C = some (excClassObj nm q C N bs bm true sn sub ab col dd k0 k1 k2 k3 k5 newId) ∧ PySem.W.excTail tl bm = true ∧ (∀ self, refuseLoop self "__setattr__" tl = pure ()) ∧ tl.contains (.type "object") = true
  sa : PySem.W.findIn K (.ref C) "__setattr__" = some (some (.builtin "object.__setattr__"))
  sub : PySem.W.subIn K (.ref C) (.type "BaseException") = some true
  ty : PySem.W.typeIn K (.ref C) = some (.type "type")
  kp : PySem.W.keepIn K (.ref C) = true
/-- its class data -/
theorem XCls.cd {K : PySem.W.Frag} {C : Addr} (T : XCls K C) : ∃ c, PySem.W.clsIn K C = some c ∧ c.hasDict = true ∧ c.mro.isEmpty = false ∧ c.mro.contains (.type "object") = true ∧ ∀ self, refuseLoop self "__setattr__" c.mro = pure () := by
  obtain ⟨B, ni, ii, tl, bm, bs, sb, nm, q, N, sn, ab, col, dd, k0, k1, k2, k3, k5, F, hl, ht, hr, ho⟩ := T.ex
  have t2 : PySem.W.excTail tl (.ref C :: bm) = true := ht
  exact ⟨_, by unfold PySem.W.clsIn; rw [hl] <;> rfl, rfl, rfl, (PySem.W.excTail_contains "object" _ t2).trans ho, fun self => PySem.W.excTail_pass self (hr self) _ t2⟩
section
open Builtin Builtin.ObjectAttr PySem.W PySem.Calls
variable {prog : Program} {w : World} {A : Around} {R : Result → Shared → Prop} {hp : Heap} {g : Array GenState} {d : Drawn} {t : Nat} {os : OsState} {K : PySem.W.Frag} {name : Str} {tk : Tok} {v : Value} {x C : Addr} {fv : Array Value}
/-- the walk of object.__setattr__ to the own dict -/
theorem xset_walk {od : Option Obj} {ox : Obj} (X : K.In hp) (T : XCls K C) (I : PySem.W.InstAt hp x ox C od) (ha : PySem.W.findIn K (.ref C) name = some none)
    (hq : wpAny (model prog w) A.in1 (storeInOwnDict (.ref x) (.ref C) (.str name tk) name v false) (fun fin s' => match fin with
      | Fin.done f => R (Except.ok f) s'
      | Fin.again c' => c'.quiet = true ∧ codeAny (model prog w) A c' R s') (fun e s' => R (.error e) s') ⟨hp, g, d, t, os⟩) :
    codeAny (model prog w) A (.call (.builtin "object.__setattr__") ⟨[.ref x, .str name tk, v], []⟩) R ⟨hp, g, d, t, os⟩ := by
  obtain ⟨cd, hcd, hh, he, hob, hr⟩ := T.cd
  have SF := F.store_object
  have isObj : PySem.W.Looks (model prog w) hp (isInstance (.ref x) (.type "object")) true := I.type.andThen (PySem.W.looks_mroIn X (by unfold PySem.W.mroIn; rw [hcd, Option.bind_some, if_neg (by rw [he]; decide), hob]))
  refine codeAny_call_builtin SF.slot.plain SF.entry (@PySem.W.check_slot (model prog w) _ _ ⟨hp, g, d, t, os⟩ "object.__setattr__" "object" "__setattr__" (.ref x) [.str name tk, v] [] _ SF.kind SF.split isObj (SF.args (.ref x) (.str name tk) v) ?_)
  have Lm : PySem.W.Looks (model prog w) hp (mroOf (.ref C)) cd.mro := (PySem.W.looks_clsIn X hcd).andThen .now
  have Ln : PySem.W.Looks (model prog w) hp (storeTaker? none) none := .now
  rw [PySem.W.osa_eq, refuse_eq]
  refine wpAny_bind (wpAny_bind (I.type.at (wpAny_bind (Lm.at ?_))))
  rw [hr (.ref x)]
  exact wpAny_pure (wpAny_bind (I.type.at (wpAny_bind ((PySem.W.looks_findIn X ha).at (wpAny_bind (Ln.at hq))))))
/-- the first field -/
theorem xset_new (X : K.In hp) (T : XCls K C) (hx : hp.get? x = some { cls := .ref C, data := .fields fv }) (ha : PySem.W.findIn K (.ref C) name = some none)
    (hq : ∀ h' tk' dx, (∀ b o, b ≠ x → hp.get? b = some o → h'.get? b = some o) → hp.objs.size ≤ dx → dx ≠ x → h'.get? x = some { cls := .ref C, dict := some dx, data := .fields fv } →
      h'.Ns1 dx (fun y => if y = name then some v else none) → R (.ok (.ret .none)) ⟨h', g, d, tk', os⟩) :
    codeAny (model prog w) A (.call (.builtin "object.__setattr__") ⟨[.ref x, .str name tk, v], []⟩) R ⟨hp, g, d, t, os⟩ := by
  refine xset_walk X T (ox := { cls := .ref C, data := .fields fv }) (od := none) ⟨hx, rfl, rfl, trivial⟩ ha ?_
  obtain ⟨cd, hcd, hh, _⟩ := T.cd
  have far : x ≠ hp.objs.size := Nat.ne_of_lt (Heap.lt_size hx)
  have Lc : PySem.W.Looks (model prog w) hp (classData C) cd := PySem.W.looks_clsIn X hcd
  obtain ⟨y1, y2, y3, y4, y5, y6, y7, y8, y9, y10, y11⟩ := cd
  dsimp only at hh
  subst hh
  unfold storeInOwnDict ownDictForStores
  repeat (first | with_reducible refine PySem.HandSPX.store_in_new ?_ ?_ | with_reducible refine wpAny_loadPart_at hx ?_ | with_reducible refine Lc.at ?_ | wp_step)
  · exact ⟨_, #[], _, (Heap.get?_update_ne _ _ _ _ far.symm).trans (Heap.get?_push_at rfl rfl), rfl, fun e he => absurd he (by simp), fun _ => rfl⟩
  · intro h2 tk2 hn2 hs2
    have hx2 : (hp.push { cls := .type "dict", data := .dict #[] }).get? x = some { cls := .ref C, data := .fields fv } := Heap.get?_push_of_some _ hx
    refine hq h2 tk2 hp.objs.size (fun b o hb ho => ?_) (Nat.le_refl _) far.symm ?_ hn2
    · exact (hs2.2 b (Nat.ne_of_lt (Heap.lt_size ho))).trans ((Heap.get?_update_ne _ _ _ _ hb).trans (Heap.get?_push_of_some _ ho))
    · exact (hs2.2 x far).trans (Heap.get?_update_self _ hx2 rfl)
/-- a further field -/
theorem xset_old {dx : Addr} {m0 : Str → Option Value} {nl : List Str} (X : K.In hp) (T : XCls K C) (hx : hp.get? x = some { cls := .ref C, dict := some dx, data := .fields fv }) (hns : hp.Ns1 dx m0) (hw : Within m0 nl) (hz : nl.length ≤ 1000) (ha : PySem.W.findIn K (.ref C) name = some none)
    (hq : ∀ h' tk', (∀ b o, b ≠ dx → hp.get? b = some o → h'.get? b = some o) → h'.Ns1 dx (fun y => if y = name then some v else m0 y) → R (.ok (.ret .none)) ⟨h', g, d, tk', os⟩) :
    codeAny (model prog w) A (.call (.builtin "object.__setattr__") ⟨[.ref x, .str name tk, v], []⟩) R ⟨hp, g, d, t, os⟩ := by
  obtain ⟨oD, eD, pD, hoD, hdD, _⟩ := hns.count hw
  refine xset_walk X T (ox := { cls := .ref C, dict := some dx, data := .fields fv }) (od := some oD) ⟨hx, rfl, rfl, hoD⟩ ha ?_
  obtain ⟨cd, hcd, hh, _⟩ := T.cd
  have Lc : PySem.W.Looks (model prog w) hp (classData C) cd := PySem.W.looks_clsIn X hcd
  obtain ⟨y1, y2, y3, y4, y5, y6, y7, y8, y9, y10, y11⟩ := cd
  dsimp only at hh
  subst hh
  unfold storeInOwnDict ownDictForStores
  repeat (first | with_reducible refine PySem.OEX.store_in_old hns hw hz ?_ | with_reducible refine wpAny_loadPart_at hx ?_ | with_reducible refine Lc.at ?_ | wp_step)
  intro h2 tk2 hn2 hs2
  exact hq h2 tk2 (fun b o hb ho => (hs2.2 b hb).trans ho) hn2
end
section
variable {X : Cx} {pins : List (Addr × Obj)} {σ : L2.St} {H : Hp} {s : Shared} {a C dx : Addr} {f : Str} {y : V} {u : Value} {fs : List (Str × V)} {Q : Unit → Shared → Prop} {E : Value → Shared → Prop} {A : Around}
/-- self.f = y, the first one -/
theorem xst_new (T : XCls X.K C) (I : Inv X pins σ H s) (e : H a = some (exo a C none)) (hno : PySem.W.findIn X.K (.ref C) f = some none) (ry : RelV y u)
    (h : ∀ dx s', H dx = none → dx ≠ a → Inv X pins σ (upd (upd H dx (exd dx [(f, y)])) a (exo a C (some dx))) s' → Q () s') : wpAny (model X.prog X.w) A (setAttr (.ref a) f u) Q E s := by
  obtain ⟨t1, ho⟩ := exo_at I.hok e
  obtain ⟨hp, g, d, t, os⟩ := s
  refine PySem.W.set_plain I.kIn (ox := { cls := .ref C, dict := none, data := .fields #[.ref t1, .none, .none, .none, .bool false, .none] }) (od := none) ⟨ho, rfl, rfl, trivial⟩ T.sa (xset_new I.kIn T ho hno fun h2 tk2 dx kp dn dne hx hn => ?_)
  have none_dx : H dx = none := I.hok.fresh dn
  have old_ne : ∀ {b : Addr} {o : Obj}, hp.get? b = some o → b ≠ dx := fun {b o} q => Nat.ne_of_lt (Nat.lt_of_lt_of_le (Heap.lt_size q) dn)
  have ne_a : ∀ {b : Addr}, H b = none → b ≠ a := fun {b} n z => by rw [z, e] at n; cases n
  have away : ∀ {b : Addr} {o : HO}, H b = some o → (exo a C none ≠ o) → upd (upd H dx (exd dx [(f, y)])) a (exo a C (some dx)) b = H b := fun {b o} q n => by
    rw [upd_ne (L2.at_ne e q n), upd_ne (ne_of_none q none_dx)]
  have UN : Un X.fs [] H (upd (upd H dx (exd dx [(f, y)])) a (exo a C (some dx))) hp h2 :=
    ⟨fun b o q n _ _ => kp b o (ne_a n) q, fun b o q n _ _ => ⟨o.slots, kp b o (ne_a n) q⟩, fun b o q n _ => by rw [upd_ne (ne_a n), upd_ne (old_ne q)]; exact n,
      fun b o q _ => (Classical.em (b = a)).elim (fun hb => ⟨_, hb.symm ▸ hx⟩) fun hb => ⟨o, kp b o hb q⟩, fun b xs q => (away q exo_tup).trans q, fun b o v q => (away q exo_frz).trans q, fun b ps q => ⟨#[], by rw [away q exo_tbl, q]; simp⟩⟩
  refine h dx _ none_dx dne (I.un (t' := tk2) UN fun b o q => ?_)
  by_cases hb : b = a
  · subst hb
    obtain rfl := Option.some.inj (upd_same.symm.trans q)
    exact exo_ok hx
  · rw [upd_ne hb] at q
    by_cases hd : b = dx
    · subst hd
      obtain rfl := Option.some.inj (upd_same.symm.trans q)
      exact exd_ok hn (relO_put (fs := []) ry fun g => True.intro)
    · rw [upd_ne hd] at q
      exact (I.hok b o q).stay (fun c v hc z => kp c v (hc.elim (fun r => by rw [r]; exact hb) (fun r => L2.at_ne e r exo_own)) z) (fun c hc => (away hc exo_own).trans hc) fun c xs hc => (away hc exo_tup).trans hc
/-- self.f = y, a further one -/
theorem xst_old (T : XCls X.K C) (I : Inv X pins σ H s) (e : H a = some (exo a C (some dx))) (ed : H dx = some (exd dx fs)) (hl : fs.length ≤ 900) (hno : PySem.W.findIn X.K (.ref C) f = some none) (ry : RelV y u)
    (h : ∀ s', Inv X pins σ (upd H dx (exd dx ((f, y) :: fs))) s' → Q () s') : wpAny (model X.prog X.w) A (setAttr (.ref a) f u) Q E s := by
  obtain ⟨t1, ho⟩ := exo_at I.hok e
  obtain ⟨mA, hns, rel⟩ := exd_at I.hok ed
  have wi := within_of rel
  obtain ⟨hp, g, d, t, os⟩ := s
  obtain ⟨oD, e1, e2, hoD, e3, e4⟩ := hns.count wi
  refine PySem.W.set_plain I.kIn (ox := { cls := .ref C, dict := some dx, data := .fields #[.ref t1, .none, .none, .none, .bool false, .none] }) (od := some oD) ⟨ho, rfl, rfl, hoD⟩ T.sa (xset_old I.kIn T ho hns wi (by rw [List.length_map]; omega) hno fun h2 tk2 kp hn => ?_)
  obtain ⟨o2, w1, w2, w3, w4⟩ := id hn
  exact h _ (I.write (t' := tk2) (x := dx) (e := dx) (o := exd dx ((f, y) :: fs)) (by rw [ed]; trivial) (.inl rfl) kp ⟨o2, w3⟩ (exd_ok hn (relO_put ry rel)))
end
/-- self.f = e, self an exception under way -/
def tXst (K : PySem.W.Frag) (f : Str) (to te : TE) : TS := fun D σ H => te σ H fun y H1 => to σ H1 fun x H2 => ∃ a C : Addr, x = .ref a ∧ XCls K C ∧ PySem.W.findIn K (.ref C) f = some none ∧
  ((H2 a = some (exo a C none) ∧ ∀ dx, H2 dx = none → dx ≠ a → D.nx σ (upd (upd H2 dx (exd dx [(f, y)])) a (exo a C (some dx)))) ∨
    ∃ (dx : Addr) (fs : List (Str × V)), H2 a = some (exo a C (some dx)) ∧ H2 dx = some (exd dx fs) ∧ fs.length ≤ 900 ∧ D.nx σ (upd H2 dx (exd dx ((f, y) :: fs))))
theorem ps_xst {X : Cx} {o e : Expr} {to te : TE} {f : Str} {p' pos : Pos} (ho : PE X o to) (he : PE X e te) (hs : swapsWith e (some (.Attribute o f p')) pos.line X.env = pure false := by rfl) : PS X (.Assign [.Attribute o f p'] e pos) (tXst X.K f to te) := by
  refine ⟨fun pins s σ H D I h => plainObj_wpAny_Assign_Attribute (thn (he.run pins s σ H _ I h) fun v s1 ⟨y, H1, I1, r1, q1⟩ => thn (ho.run pins s1 σ H1 _ I1 q1) fun u s2 ⟨x, H2, I2, r2, a, C, ex, T, hno, q⟩ => ?_) hs⟩
  subst ex
  obtain rfl : u = Value.ref a := r2
  rcases q with ⟨ea, q⟩ | ⟨dx, fs, ea, ed, hl, q⟩
  · exact xst_new T I2 ea hno r1 fun dx s' n ne J => ⟨σ, _, J, q dx n ne⟩
  · exact xst_old T I2 ea ed hl hno r1 fun s' J => ⟨σ, _, J, q⟩
end DL
/-! exceptions of own classes: inits that store their parameters; raise -/
namespace DL
open PySem PySem.Spec L2 C8 PyProof.Rows
/-- an init that stores its parameters -/
def spX (K : PySem.W.Frag) (ns : List Str) : Sp := fun vs H Q _ => ∃ (a C : Addr) (ys : List V), vs = .ref a :: ys ∧ ys.length = ns.length ∧ XCls K C ∧ (∀ f ∈ ns, PySem.W.findIn K (.ref C) f = some none) ∧ H a = some (exo a C none) ∧
  ∀ dx, H dx = none → dx ≠ a → Q .non (upd (upd H dx (exd dx (ns.zip ys).reverse)) a (exo a C (some dx)))
theorem spX_len {K : PySem.W.Frag} {ns : List Str} : ∀ vs H Q E, spX K ns vs H Q E → vs.length = ("self" :: ns : List Str).length := by
  rintro vs H Q E ⟨a, C, ys, rfl, l, _⟩
  simp [l]
section
variable {P : Program} {w : World} {K : PySem.W.Frag} {mg : Str → Option Value} {base : Heap} {st : Stmt} {f : Addr} {fd : FuncData} {qual p1 p2 : Str} {k : Nat} {q1 q2 q3 q4 q5 q6 q7 q8 : Pos}
theorem xinit1 (F : L2.Fun K "__init__" qual st f fd) (S : FnScope ["self", p1] ["self", p1] (defScope st)) (hv : Vis (defScope st) "self") (hv1 : Vis (defScope st) p1) (hb : defBody st = [.Assign [.Attribute (.Name "self" q1) p1 q2] (.Name p1 q3) q4])
    (hd : (p1 == ("__debug__" : Str)) = false := by decide) (hc : (p1 == ("__classdict__" : Str)) = false := by decide) : FnOk P w K mg base L2.CX0 (k + 1) f fd ["self", p1] (spX K [p1]) := by
  refine F.ok S spX_len fun cdv A outer s H vs Q E hr hs => ?_
  rw [hb]
  obtain ⟨a, C, ys, rfl, l, T, hf, ea, h⟩ := hs
  match ys, l with
  | [y], _ =>
    refine ⟨_, pss_one (ps_xst (pe_var (i := 0) rfl hv) (pe_var (i := 1) rfl hv1 hd hc)), ?_⟩
    exact ⟨y, rfl, .ref a, rfl, a, C, rfl, T, hf _ (by simp), .inl ⟨ea, fun dx n ne => h dx n ne⟩⟩
theorem xinit2 (F : L2.Fun K "__init__" qual st f fd) (S : FnScope ["self", p1, p2] ["self", p1, p2] (defScope st)) (hv : Vis (defScope st) "self") (hv1 : Vis (defScope st) p1) (hv2 : Vis (defScope st) p2)
    (hb : defBody st = [.Assign [.Attribute (.Name "self" q1) p1 q2] (.Name p1 q3) q4, .Assign [.Attribute (.Name "self" q5) p2 q6] (.Name p2 q7) q8])
    (hd : (p1 == ("__debug__" : Str)) = false := by decide) (hc : (p1 == ("__classdict__" : Str)) = false := by decide) (hd2 : (p2 == ("__debug__" : Str)) = false := by decide) (hc2 : (p2 == ("__classdict__" : Str)) = false := by decide) :
    FnOk P w K mg base L2.CX0 (k + 1) f fd ["self", p1, p2] (spX K [p1, p2]) := by
  refine F.ok S spX_len fun cdv A outer s H vs Q E hr hs => ?_
  rw [hb]
  obtain ⟨a, C, ys, rfl, l, T, hf, ea, h⟩ := hs
  match ys, l with
  | [y, z], _ =>
    refine ⟨_, pss_cons (ps_xst (pe_var (i := 0) rfl hv) (pe_var (i := 1) rfl hv1 hd hc)) (pss_one (ps_xst (pe_var (i := 0) rfl hv) (pe_var (i := 2) rfl hv2 hd2 hc2))), ?_⟩
    refine ⟨y, rfl, .ref a, rfl, a, C, rfl, T, hf _ (by simp), .inl ⟨ea, fun dx n ne => ?_⟩⟩
    refine ⟨z, rfl, .ref a, rfl, a, C, rfl, T, hf _ (by simp), .inr ⟨dx, _, upd_same, by rw [upd_ne ne, upd_same], by simp, ?_⟩⟩
    have e : upd (upd (upd H dx (exd dx [(p1, y)])) a (exo a C (some dx))) dx (exd dx ((p2, z) :: [(p1, y)])) = upd (upd H dx (exd dx (([p1, p2] : List Str).zip [y, z]).reverse)) a (exo a C (some dx)) := by
      funext b
      by_cases h1 : b = dx
      · subst h1; rw [upd_same, upd_ne ne, upd_same]; rfl
      · by_cases h2 : b = a
        · subst h2; rw [upd_ne h1, upd_same, upd_same]
        · rw [upd_ne h1, upd_ne h2, upd_ne h1, upd_ne h2, upd_ne h1]
    exact (congrArg (Q V.non) e).mpr (h dx n ne)
end
section
variable {X : Cx} {k : Nat} {f C : Addr} {fd : FuncData} {ps : List Str} {sp : Sp} {x : Str} {p pos : Pos} {e : Expr} {es : List Expr} {ta : TA} {bmB : List Value} {B newId initId : String}
/-- X(e, ..), its init walked -/
theorem pmk_x (T : XCls X.K C) (iC : PySem.W.findIn X.K (.ref C) "__init__" = some (some (.ref f))) (tI : PySem.W.typeIn X.K (.ref f) = some (.type "function")) (G : FnOk X.prog X.w X.K X.mg X.base L2.CX0 k f fd ps sp) (hr : Room (k + 1) X.A) (hb : Binds X.K fd ps []) (hg : Gl X x) (hm : X.mg x = some (.ref C)) (ha : PA X (e :: es) ta)
    (hdb : (x == ("__debug__" : Str)) = false := by decide) (he : starEach (e :: es) X.env = (false, eval e X.env) :: starEach es X.env := by rfl) (hpl : (backTo pos (starEach es X.env)).any (·.1) = false := by rfl) :
    PMk X (.Call (.Name x p) (e :: es) [] pos) (tMkO C sp [] ta) := by
  intro pins s σ H Q I h
  obtain ⟨B, ni, ii, tl, bm, bs, sb, nm, q, N, sn, ab, col, dd, k0, k1, k2, k3, k5, FB, hl, ht, _⟩ := T.ex
  refine wpAny_Call_Name_kw (ld_glob I hg hm ?_ hdb)
  refine PySem.W.callWith_K (h₀ := X.base) I.ok.mod.kin T.kp (thn (ha.run pos pins s σ H _ I h) fun us s1 ⟨vs, H1, I1, r1, hz, q1⟩ => ⟨I1.kIn, ?_⟩) he hpl
  show wpAny _ _ (call (.ref C) us) _ _ _
  obtain ⟨hp, g, dr, tk, os⟩ := s1
  have le1 : hp.objs.size ≤ hp.objs.size + 1 := Nat.le_succ _
  have hn : H1 (hp.objs.size + 1) = none := I1.hok.fresh le1
  have hq := q1 (hp.objs.size + 1) hn
  rw [List.append_nil] at hq
  have up2 : ∀ b o, hp.get? b = some o → ((hp.push (PySem.W.kdv_tup us)).push (PySem.HandSPX.excO C hp.objs.size)).get? b = some o := fun b o z => Heap.get?_push_of_some _ (Heap.get?_push_of_some _ z)
  have there : ((hp.push (PySem.W.kdv_tup us)).push (PySem.HandSPX.excO C hp.objs.size)).get? (hp.objs.size + 1) = some (PySem.HandSPX.excO C hp.objs.size) := by heap_get
  have I2 : Inv X pins σ (upd H1 (hp.objs.size + 1) (exo (hp.objs.size + 1) C none)) ⟨(hp.push (PySem.W.kdv_tup us)).push (PySem.HandSPX.excO C hp.objs.size), g, dr, tk, os⟩ := I1.laid (t' := tk) up2 le1 (exo_ok there)
  have r2 : Vals (V.ref (hp.objs.size + 1) :: vs) (Value.ref (hp.objs.size + 1) :: us) := .cons rfl r1
  have len2 : (Value.ref (hp.objs.size + 1) :: us).length = ps.length := r2.length.symm.trans (G.len _ _ _ _ hq)
  have small : us.length ≤ sizeLine := by rw [← Paired.length r1, sizeLine_eq]; omega
  have bd := hb _ (Value.ref (hp.objs.size + 1) :: us) I2.kIn (by rw [List.append_nil]; exact len2)
  rw [List.append_nil] at bd
  refine wpAny_call (PySem.HandSPX.call_own FB (fun Y => PySem.W.excTail_contains Y bm ht) (I1.kIn _ _ hl) (PySem.W.looks_findIn I1.kIn iC) (fun self => PySem.W.bind_fn I1.kIn self tI) small
    (codeAny_mono (G.run _ X.stack _ _ ⟨Value.ref (hp.objs.size + 1) :: us, []⟩ (Value.ref (hp.objs.size + 1) :: us) _ _ (fun _ _ _ => False) (hr.make C us []) (I2.env0.make C us []) bd r2 hq) fun r s' z => ?_))
  cases r with
  | error er => exact False.elim z
  | ok fl =>
    cases fl with
    | ret u =>
      obtain ⟨v, H2, os2, bare2, un2, hok2, rv, ev, d, fs, ea, ed, hd1, q2⟩ := z
      subst ev
      obtain ⟨h2, g2, d2, t2, os'⟩ := s'
      exact ⟨rv, mk_end (raises_own T.sub T.ty) I1 le1 up2 un2 hok2 os2 bare2 ea ed hd1 q2⟩
    | next => exact False.elim z
    | brk => exact False.elim z
    | cont => exact False.elim z
end
end DL
/-! raise, over data -/
namespace DL
open PySem PySem.Spec L2 C8 PyProof.Rows
def wRaise (C : Addr) (ns : List Str) (wl : WA) : WS := fun D ρ h => wl ρ h (fun ds h1 => ds.length = ns.length ∧ D.ex (.own C (ns.zip ds).reverse) h1) D.ex
section
variable (P : Program) (w : World) (K : PySem.W.Frag) (mg : Str → Option Value) (base : Heap)
/-- the exception class at C bears the name x; its init stores its parameters -/
structure XMk (x : Str) (C : Addr) (k : Nat) (ns : List Str) : Prop where
  ex : ∃ (f : Addr) (fd : FuncData) (ps : List Str), PySem.W.findIn K (.ref C) "__init__" = some (some (.ref f)) ∧ PySem.W.typeIn K (.ref f) = some (.type "function") ∧ FnOk P w K mg base L2.CX0 k f fd ps (spX K ns) ∧ Binds K fd ps []
  cls : XCls K C
  at_ : mg x = some (.ref C)
  no : ∀ f ∈ ns, PySem.W.findIn K (.ref C) f = some none
  sm : ns.length ≤ 1000
end
theorem Sim.growH {K : PySem.W.Frag} {F : Hp} {h : AH} {H : Hp} {p : Addr} (S : Sim K F h H) (e : H p = none) (u : HO) : Sim K F h (upd H p u) := by
  obtain ⟨e1, e2⟩ := S.free e
  refine ⟨fun a o q => ?_, fun a o q => ?_⟩
  · rw [upd_ne (fun z => by rw [z, e1] at q; cases q)]; exact S.fz _ _ q
  · rw [upd_ne (fun z => by rw [z, e2] at q; cases q)]; exact S.ob _ _ q
theorem RepF.app {K : PySem.W.Frag} {F : Hp} : ∀ {xs ys : List (Str × D)} {vs ws : List (Str × V)}, RepF K F xs vs → RepF K F ys ws → RepF K F (xs ++ ys) (vs ++ ws)
  | _, _, _, _, .nil, s => s
  | _, _, _, _, .cons h t, s => .cons h (RepF.app t s)
theorem RepF.rev {K : PySem.W.Frag} {F : Hp} : ∀ {xs : List (Str × D)} {vs : List (Str × V)}, RepF K F xs vs → RepF K F xs.reverse vs.reverse
  | _, _, .nil => .nil
  | _, _, .cons (k := k) h t => by rw [List.reverse_cons, List.reverse_cons]; exact RepF.app (RepF.rev t) (.cons h .nil)
theorem RepF.zip {K : PySem.W.Frag} {F : Hp} : ∀ (ns : List Str) {xs : List D} {vs : List V}, Reps K F xs vs → RepF K F (ns.zip xs) (ns.zip vs)
  | [], _, _, _ => .nil
  | _ :: _, _, _, .nil => .nil
  | n :: ns, _, _, .cons h t => .cons h (RepF.zip ns t)
section
variable {X : Cx} {E : XK} {gz : Bool} {k j : Nat} {C : Addr} {x : Str} {ns : List Str} {e : Expr} {es : List Expr} {wl : WA} {p pos pos' : Pos}
theorem as_raise (c : Cg gz X E k) (M : XMk X.prog X.w X.K X.mg X.base x C j ns) (hj : j + 1 ≤ k) (hl : AA X E (e :: es) wl) (tk : Takes X (fun cls d _ H => E cls d H) := by exact takes_of rfl rfl rfl rfl) (hg : Gl X x := by rfl)
    (hdb : (x == ("__debug__" : Str)) = false := by decide) (he : starEach (e :: es) X.env = (false, eval e X.env) :: starEach es X.env := by rfl) (hpl : (backTo pos (starEach es X.env)).any (·.1) = false := by rfl) :
    AS X E (.Raise (some (.Call (.Name x p) (e :: es) [] pos)) none pos') (wRaise C ns wl) := by
  obtain ⟨f, fd, ps, iC, tI, G, B⟩ := M.ex
  refine ⟨PS.imp (ps_raise c.calm tk (pmk_x M.cls iC tI G (c.room.mono hj) B hg M.at_ hl.run hdb he hpl)) fun D σ H hq => ?_, fun D D' ρ h hD q => hl.mo _ _ _ _ _ _ (fun ds h1 z => ⟨z.1, hD.ex _ _ z.2⟩) hD.ex q⟩
  obtain ⟨F, ρ, h, S, R, q⟩ := hq
  refine ⟨F, ρ, h, S, R, hl.mo _ _ _ _ _ _ (fun ds h1 z => ?_) (fun _ _ z => z) q⟩
  obtain ⟨l, z⟩ := z
  intro F1 H1 vs e1 S1 r
  have lv : vs.length = ns.length := by rw [← r.length]; exact l
  refine ⟨by rw [lv]; exact M.sm, fun a na => ?_⟩
  rw [List.append_nil]
  refine ⟨a, C, vs, rfl, lv, M.cls, M.no, upd_same, fun dx nd ne => ⟨rfl, dx, _, upd_same, by rw [upd_ne ne, upd_same], by rw [upd_ne ne] at nd; exact nd, ?_⟩⟩
  have nd1 : H1 dx = none := by rw [upd_ne ne] at nd; exact nd
  have eH : upd (L2.del (upd (upd (upd H1 a (exo a C none)) dx (exd dx (ns.zip vs).reverse)) a (exo a C (some dx))) a) dx (.xd (ns.zip vs).reverse) = upd H1 dx (.xd (ns.zip vs).reverse) := by
    funext b
    by_cases h1 : b = dx
    · subst h1; rw [upd_same, upd_same]
    · rw [upd_ne h1, upd_ne h1]
      by_cases h2 : b = a
      · subst h2; rw [L2.del_same, na]
      · rw [L2.del_ne h2, upd_ne h2, upd_ne h1, upd_ne h2]
  rw [eH]
  exact z F1 _ _ _ e1 (S1.growH nd1 _) ⟨rfl, .inr ⟨dx, _, rfl, upd_same, RepF.rev (RepF.zip ns r)⟩⟩
end
theorem u_raise {C : Addr} {ns : List Str} {wl : WA} {D : EndsD} {ρ : EnvD} {h : AH} : wRaise C ns wl D ρ h = wl ρ h (fun ds h1 => ds.length = ns.length ∧ D.ex (.own C (ns.zip ds).reverse) h1) D.ex := rfl
end DL
/-! try .. except (A, B, C) as e: y = e, the exception kept behind it -/
namespace DL
open PySem PySem.Spec L2 C8 PyProof.Rows
/-- the class test of an except clause -/
def XTest (X : Cx) (t : Expr) (ok : Value → Option Bool) : Prop :=
  ∀ (a : Addr) (pn : List (Addr × Obj)) (σ : L2.St) (H : Hp) (s : Shared) (cls : Value) (b : Bool) (E : Value → Shared → Prop) (Q : Bool → Shared → Prop), Inv (X.suite a pn) [] σ H s → PySem.W.Looks (model X.prog X.w) s.heap (typeOf (.ref a)) cls → ok cls = some b →
    (∀ h', (∀ q o, s.heap.get? q = some o → h'.get? q = some o) → Q b { s with heap := h' }) → wpAny (model X.prog X.w) (X.A.mark (some (.ref a))) (eval t X.env) (fun c s1 => wpAny (model X.prog X.w) (X.A.mark (some (.ref a))) (excMatches (.ref a) c) Q E s1) E s
theorem xt_name {X : Cx} {a1 a2 : Addr} {pn : List (Addr × Obj)} {σ : L2.St} {H : Hp} {s : Shared} {x : Str} {c : Value} {np : Pos} {Q : Value → Shared → Prop} {E : Value → Shared → Prop} (hc : Names X x c) (I : Inv (X.suite a1 pn) [] σ H s) (q : Q c s) :
    wpAny (model X.prog X.w) (X.A.mark (some (.ref a1))) (eval (.Name x np) X.env) Q E s := by
  obtain ⟨hg, hd, hm | ⟨hm, hv, hn⟩⟩ := hc
  · exact ld_glob (X := X.suite a1 pn) I hg hm q hd
  · exact ld_blt (X := X.suite a1 pn) I hg hm hv q hn hd
theorem xt_three {X : Cx} {x1 x2 x3 : Str} {c1 c2 c3 : Value} {p1 p2 p3 tpos : Pos} {kk : Nat} (n1 : Names X x1 c1) (n2 : Names X x2 c2) (n3 : Names X x3 c3) :
    XTest X (.Tuple [.Name x1 p1, .Name x2 p2, .Name x3 p3] kk tpos) (fun cls => PySem.W.exmAny X.K cls [c1, c2, c3]) := fun a pn σ H s cls b E Q I LT e q => by
  refine wpAny_Tuple (wpAny_items_cons (xt_name (a2 := a) n1 I (wpAny_items_cons (xt_name (a2 := a) n2 I (wpAny_items_cons (xt_name (a2 := a) n3 I (wpAny_items_nil ⟨by size_fits, ?_⟩)))))))
  have kp : ∀ y o, s.heap.get? y = some o → (s.heap.push { cls := .type "tuple", data := .seq [c1, c2, c3].toArray }).get? y = some o := fun _ _ z => Heap.get?_push_of_some _ z
  exact (PySem.W.exm_tup3 (I.kIn.keeps kp) (LT.keeps kp) (Heap.get?_push_size s.heap rfl) e).here (q _ kp)
theorem flying_keep {base h h' : Heap} {l : List Env} {e : Addr} {Z : Obj → Prop} (x : HandSPX.FlyingZ base l e Z h) (k : ∀ b o, h.get? b = some o → h'.get? b = some o) : HandSPX.FlyingZ base l e Z h' := by
  obtain ⟨f1, f2, f3, oe, vs, T, oT, ts, he, hz, hd, h1, hn, hne, hT, hdT, h3⟩ := x
  exact ⟨fun b o q => k b o (f1 b o q), f2, f3.of_keeps fun b o q _ => ⟨o, k b o q, rfl⟩, oe, vs, T, oT, ts, k _ _ he, hz, hd, h1, hn, hne, k _ _ hT, hdT, h3⟩
/-- an object of the heap that is new since the entry is known from now on -/
theorem inv_track {X : Cx} {pins : List (Addr × Obj)} {σ : L2.St} {H : Hp} {s : Shared} {a : Addr} {o : HO} (I : Inv X pins σ H s) (n : H a = none) (n0 : X.s_0.heap.get? a = none) (nL : a ≠ X.env.locals) (nC : ∀ x c, X.env.cells.lookup x = some c → c ≠ a) (nP : ∀ p ∈ X.pn ++ pins, p.1 ≠ a)
    (new : ObjOk X.prog X.w (upd H a o) s.heap a o) : Inv X pins σ (upd H a o) s := by
  have away : ∀ {b : Addr} {u : HO}, H b = some u → upd H a o b = H b := fun {b u} q => upd_ne (ne_of_none q n)
  refine ⟨I.ok, I.os, I.bare, ⟨I.base.keep, I.base.slot, fun b u e q hx => ?_, I.base.there, fun b xs q => ?_, fun b u xs q => ?_, fun b ps q => ?_⟩, I.loc, I.cell, ?_, fun x c e => ?_, fun p hp => ?_, fun b u e => ?_, I.len⟩
  · rw [upd_ne (fun z => by rw [z, n0] at e; cases e)]
    exact I.base.free b u e q hx
  · have z := I.base.tups b xs q
    rw [away z]; exact z
  · have z := I.base.frzs b u xs q
    rw [away z]; exact z
  · obtain ⟨m, z⟩ := I.base.tbls b ps q
    exact ⟨m, by rw [away z]; exact z⟩
  · rw [upd_ne (Ne.symm nL)]; exact I.free
  · rw [upd_ne (nC x c e)]; exact I.freeC x c e
  · obtain ⟨h1, h2, h3, h4, h5⟩ := I.pin p hp
    exact ⟨h1, by rw [upd_ne (nP p hp)]; exact h2, h3, h4, h5⟩
  · by_cases hb : b = a
    · subst hb
      obtain rfl := Option.some.inj (upd_same.symm.trans e)
      exact new
    · rw [upd_ne hb] at e
      exact (I.hok b u e).stay (fun c v _ z => z) (fun c z => (away z).trans z) fun c xs z => (away z).trans z
theorem exV_ok {P : Program} {w : World} {H : Hp} {h : Heap} {a C : Addr} {d : Option Addr} {oe : Obj} {vs : Array Value} (e : h.get? a = some oe) (z : Zc (.ref C) d oe) (hd : oe.data = .fields vs) : ObjOk P w H h a (exV a C d) :=
  ⟨⟨oe, vs, e, z, hd⟩, ⟨oe, e⟩, fun _ _ ⟨o, v, q, r⟩ k => ⟨o, v, k o q, r⟩⟩
/-- what the clause wishes: slot i is the clause's name, slot j keeps the exception -/
def wKeep (ok : Value → Option Bool) (i j : Nat) (Wout : WX) (D : Ends) : WX := fun cls d σ H =>
  ∃ b, ok cls = some b ∧ (b = true → ∃ C, cls = .ref C ∧ ∀ a, H a = none → D.nx (((σ.set i (some (.ref a))).set j (some (.ref a))).set i none) (upd H a (exV a C d))) ∧ (b = false → Wout cls d σ H)
section
variable {X : Cx} {n : Str} {i j : Nat} {body suite : List Stmt} {b₀ : Stmt} {te : Expr} {pos pos' : Pos} {tb : WX → TS} {Wout : WX} {ok : Value → Option Bool}
theorem ps_try_keep (hex : X.ex = []) (hs : X.stack = X.env :: X.outer) (hf : X.env.frame = some X.env.locals) (hN : X.N.Nodup) (hi : X.N[i]? = some n) (hln : X.env.kindOf n = some .local) (ht : XTest X te ok) (tk : Takes X Wout)
    (hb : ∀ (W : WX) (pn : List (Addr × Obj)) (xe : Value → Shared → Prop), Takes (X.tr pn xe) W → PassesOwn (model X.prog X.w) X.A X.env xe → PSs (X.tr pn xe) body (tb W))
    (hsu : ∀ (a : Addr) (pn : List (Addr × Obj)), PSs (X.suite a pn) (b₀ :: suite) (fun D σ H => ∃ v, σ[i]? = some (some v) ∧ D.nx (σ.set j (some v)) H)) (hij : i < X.N.length) :
    PS X (.Try body [.ExceptHandler (some te) (some n) (b₀ :: suite) pos'] [] [] pos) (fun D σ H => tb (wKeep ok i j Wout D) D σ H) := by
  refine ⟨fun pins s σ H D I h => ?_⟩
  have okX := I.ok
  have hfr : X.A.frames = some (X.env :: X.outer) := by rw [okX.frames, hs]
  have hloc : Loc X.env.scope n := .inl hln
  refine wpAny_Try_except (wpAny_mono ((hb (wKeep ok i j Wout D) (X.pn ++ pins) (fun e s₁ => wpAny (model X.prog X.w) X.A (noteFrame e X.env) (fun _ s₂ => wpAny (model X.prog X.w) X.A (setFlight e none) (fun _ s₃ =>
    wpAny (model X.prog X.w) X.A (handleBy e X.env [.ExceptHandler (some te) (some n) (b₀ :: suite) pos']) (SP X pins D) X.xe s₃) X.xe s₂) X.xe s₁) (fun u s' xx => ?_) PassesOwn.looking).run [] s σ H D (I.toTry _) h) (fun f s1 hsp => ?_) (fun e s1 he => he))
  · obtain ⟨a, B, sI, pins', σ', H', cls, d, rfl, J', nb, up, sky, na, os, ag, b, hb1, hyes, hno⟩ := xx
    have J : Inv X pins σ' H' sI := J'.ofTry okX
    have sky2 : Sky B (X.env :: X.outer) a (Zc cls d) X.env.locals s'.heap := by rw [← hs]; exact sky
    show wpAny (model X.prog X.w) X.A (noteFrame (.ref a) X.env) _ _ _
    refine Sky.land Zc.steady hfr hf sky2 fun h3 fl3 up3 => ?_
    have J3 : Inv X pins σ' H' { s' with heap := h3 } := J.landed nb fl3.1 (up.trans up3) os ag
    obtain ⟨oe3, vs3, he3, hz3, hd3⟩ := fl3.there
    have outFr : ∀ {h : Heap} {o : Obj} {vs : Array Value}, h.FunFrames B (X.env :: X.outer) → h.get? a = some o → o.data = .fields vs → a ∉ frs (X.env :: X.outer) := fun {h o vs} ff e dd hm => by
      obtain ⟨_, o2, e2, nf2⟩ := ff.mem hm
      rw [e] at e2
      obtain rfl := Option.some.inj e2
      exact nf2 _ dd
    have nfr := outFr fl3.2.2.1 he3 hd3
    have nL : a ≠ X.env.locals := fun z => nfr (List.mem_filterMap.mpr ⟨X.env, List.mem_cons_self, by rw [hf, z]⟩)
    have nF : a ∉ X.fs := fun hm => by
      obtain ⟨e, he, q⟩ := List.mem_filterMap.mp hm
      exact nfr (List.mem_filterMap.mpr ⟨e, List.mem_cons_of_mem _ he, q⟩)
    have nI : sI.heap.get? a = none := by
      cases q : sI.heap.get? a with
      | none => rfl
      | some o =>
        have z := nb a o q (by rw [hs]; exact nfr)
        rw [fl3.2.1] at z; cases z
    have S3 := J3.suite he3 hd3 na nL nF
    have LT : PySem.W.Looks (model X.prog X.w) h3 (typeOf (.ref a)) cls := fun A Q E s k q => wpAny_typeOf_ref (k _ _ he3) (by rw [hz3.1]; exact q)
    refine wpAny_handleBy_cons (codeAny_handlers_test (ht a _ σ' H' _ cls b _ _ S3 LT hb1 fun h4 kp => ?_)) (by intro q; cases q)
    have fl4 := flying_keep fl3 kp
    have up4 := (up.trans up3).trans (Heap.UpToSlots.of_keeps kp)
    cases b with
    | true =>
      obtain ⟨C, hC, go1⟩ := hyes rfl
      subst hC
      refine codeAny_handlers_suite_as (HandSPX.lands_againZ fl4 fun h5 fl5 up5 => ?_)
      have J5 : Inv X pins σ' H' { s' with heap := h5 } := J.landed nb fl5.1 (up4.trans up5) os ag
      obtain ⟨oe5, vs5, he5, hz5, hd5⟩ := fl5.there
      have S5 := J5.suite he5 hd5 na nL nF
      refine store_ok (X := X.suite a ((a, oe5) :: (X.pn ++ pins))) (v := .ref a) S5 hN hi hloc rfl (fun s6 S6 => ?_) (.inr hln)
      refine wpAny_mono ((hsu a ((a, oe5) :: (X.pn ++ pins))).run [] s6 _ H' { nx := fun σ7 H7 => σ7 = (σ'.set i (some (.ref a))).set j (some (.ref a)) ∧ H7 = H', rt := fun _ _ => False } S6 ⟨.ref a, ?_, rfl, rfl⟩) (fun f s7 hsp => ?_) (fun _ _ z => False.elim z)
      · exact List.getElem?_set_self (by rw [J.len]; exact hij)
      · cases f with
        | next =>
          obtain ⟨σ7, H7, S7, rfl, rfl⟩ := hsp
          obtain ⟨hpin, _⟩ := S7.pin (a, oe5) (List.mem_append_left _ List.mem_cons_self)
          have J7 : Inv X pins _ H7 s7 := S7.unsuite okX
          have n0 : X.s_0.heap.get? a = none := by
            cases q : X.s_0.heap.get? a with
            | none => rfl
            | some o =>
              obtain ⟨o2, z⟩ := J.base.there a o q (by rw [hex]; simp)
              rw [nI] at z; cases z
          have J8 := inv_track (o := exV a C d) J7 na n0 nL (fun x c e z => by
              obtain ⟨v, o, ho, hdc⟩ := J7.cell x c e
              rw [z, hpin] at ho
              obtain rfl := Option.some.inj ho
              rw [hd5] at hdc; cases hdc) (fun p hp z => by
              have y := (J.pin p hp).1
              rw [z, nI] at y; cases y) (exV_ok hpin hz5 hd5)
          exact gone_ok J8 hN hi hln fun s8 J9 => ⟨_, _, J9, go1 a na⟩
        | brk => obtain ⟨_, _, _, z⟩ := hsp; exact z.elim
        | cont => obtain ⟨_, _, _, z⟩ := hsp; exact z.elim
        | ret u => obtain ⟨_, _, _, _, _, z⟩ := hsp; exact z.elim
    | false =>
      show wpAny _ X.A (handleBy (.ref a) X.env []) _ _ _
      refine wpAny_handleBy_nil ?_
      obtain ⟨k1, k2, k3, oe, vs, T, oT, ts, he, hz, hd, h1, hr⟩ := id fl4
      unfold PySem.passOn
      refine wpAny_bind (wpAny_field he hd h1 ?_)
      rw [if_neg (show ¬ ((Value.ref T == Value.none) = true) from by simp)]
      have out : wpAny (model X.prog X.w) X.A (setFlight (.ref a) X.env.frame) (fun _ s5 => wpAny (model X.prog X.w) X.A (throw (.ref a) : Sem Flow) (SP X pins D) X.xe s5) X.xe { s' with heap := h4 } := by
        rw [hf]
        exact HandSPX.setFlight_upZ fl4 fun h5 hh5 up5 => wpAny_throw (tk _ _ ⟨a, B, sI, pins, σ', H', cls, d, rfl, J, nb, up4.trans up5, .inr (.inr (by rw [hs]; exact hh5)), na, os, ag, hno rfl⟩)
      first
        | exact wpAny_bind (wpAny_pure (wpAny_bind out))
        | exact wpAny_bind out
  · cases f with
    | next => obtain ⟨σ2, H2, K2, q⟩ := hsp; exact wpAny_execs_nil ⟨σ2, H2, K2.ofTry okX, q⟩
    | brk => obtain ⟨σ2, H2, K2, q⟩ := hsp; exact ⟨σ2, H2, K2.ofTry okX, q⟩
    | cont => obtain ⟨σ2, H2, K2, q⟩ := hsp; exact ⟨σ2, H2, K2.ofTry okX, q⟩
    | ret u => obtain ⟨v, σ2, H2, K2, r, q⟩ := hsp; exact ⟨v, σ2, H2, K2.ofTry okX, r, q⟩
end
end DL
namespace DL
open PySem PySem.Spec L2 C8 PyProof.Rows
/-- what is done with an exception of the classes errs: slot j of an empty frame keeps it -/
def exH (errs : List Addr) (n j : Nat) (D : EndsD) : KX := fun x h => match x with
  | .own C fs => C ∈ errs ∧ D.nx ((List.replicate n none).set j (some (.xob C fs))) h
  | .blt _ => False
def wTry (errs : List Addr) (n j : Nat) (wb : WS) : WS := fun D ρ h => wb { D with ex := exH errs n j D } ρ h
/-- an exception's dict is no object that may change -/
theorem xd_free {K : PySem.W.Frag} {F : Hp} {h : AH} {H : Hp} {dd : Addr} {vs : List (Str × V)} (S : Sim K F h H) (e : H dd = some (.xd vs)) : h dd = none := by
  cases q : h dd with
  | none => rfl
  | some o =>
    obtain ⟨_, u, hu, r⟩ := S.ob _ _ q
    rw [e] at hu
    obtain rfl := Option.some.inj hu
    cases o with
    | lst _ => obtain ⟨_, z, _⟩ := r; cases z
    | dK _ => obtain ⟨_, z, _⟩ := r; cases z
    | dT _ => obtain ⟨_, z, _⟩ := r; cases z
    | ins _ _ => obtain ⟨_, _, z, _⟩ := r; cases z
    | lck _ => obtain ⟨_, _, z, _⟩ := r; cases z
    | lckK _ _ => obtain ⟨_, z, _⟩ := r; cases z
    | tab _ => obtain ⟨_, z, _⟩ := r; cases z
/-- an object that stands in the heap and doesn't change is known from now on -/
theorem Sim.know {K : PySem.W.Frag} {F : Hp} {h : AH} {H : Hp} {p : Addr} {u : HO} (S : Sim K F h H) (e : H p = some u) (n : h p = none) : Ext F (upd F p u) ∧ Sim K (upd F p u) h H := by
  have ext : Ext F (upd F p u) := fun a o q => by
    by_cases c : a = p
    · subst c
      have z := S.fz _ _ q
      rw [e] at z
      rw [upd_same]; exact z
    · rw [upd_ne c]; exact q
  refine ⟨ext, fun a o q => ?_, fun a o q => ?_⟩
  · by_cases c : a = p
    · subst c
      rw [upd_same] at q
      rw [← q]; exact e
    · rw [upd_ne c] at q; exact S.fz _ _ q
  · have c : a ≠ p := fun z => by rw [z, n] at q; cases q
    obtain ⟨f, w, hw, r⟩ := S.ob _ _ q
    exact ⟨by rw [upd_ne c]; exact f, w, hw, r.ext ext⟩
/-- the kept exception, over data -/
theorem keep_sim {K : PySem.W.Frag} {F : Hp} {h : AH} {H : Hp} {C a : Addr} {d : Option Addr} {fs : List (Str × D)} {cls : Value} (S : Sim K F h H) (r : RepX K F H (.own C fs) cls d) (na : H a = none) :
    ∃ F2, Ext F F2 ∧ Sim K F2 h (upd H a (exV a C d)) ∧ Rep K F2 (.xob C fs) (.ref a) := by
  obtain ⟨_, ⟨rfl, rfl⟩ | ⟨dd, vs, rfl, hd, rf⟩⟩ := r
  · exact ⟨_, ext_upd (S.free na).1, S.newF na _, .xob0 upd_same⟩
  · obtain ⟨e1, S1⟩ := S.know hd (xd_free S hd)
    have e2 := ext_upd (o := exV a C (some dd)) (S1.free na).1
    exact ⟨_, e1.trans e2, S1.newF na _, .xob upd_same (e2 _ _ upd_same) ((rf.ext e1).ext e2)⟩
section
variable {X : Cx} {E : XK} {gz : Bool} {k i j : Nat} {n y x1 x2 x3 : Str} {c1 c2 c3 : Value} {body : List Stmt} {pos pos' p1 p2 p3 q1 q2 q3 q4 : Pos} {kk : Nat} {wb : WS} {errs : List Addr}
theorem takes_len {W : WX} {X : Cx} (t : Takes X W) : Takes X (fun cls d _ H => ∀ σ : L2.St, σ.length = X.N.length → W cls d σ H) := fun u s' ⟨a, B, sI, pins, σ, H, cls, d, e, I, nb, up, sky, na, os, ag, w⟩ =>
  t u s' ⟨a, B, sI, pins, σ, H, cls, d, e, I, nb, up, sky, na, os, ag, w σ I.len⟩
/-- in the body of a try -/
theorem cg_try (c : Cg gz X E k) {pn : List (Addr × Obj)} {xe : Value → Shared → Prop} {W : WX} (t : Takes (X.tr pn xe) W) (po : PassesOwn (model X.prog X.w) X.A X.env xe) : Cg gz (X.tr pn xe) (fun cls d H => ∀ σ : L2.St, σ.length = X.N.length → W cls d σ H) k :=
  ⟨c.room, c.gd, c.calm, c.nd, passes_call (takes_len t) (fun _ _ _ _ z => z), po⟩
theorem as_try (i j : Nat) (c : Cg gz X E k) (he : ∀ C ∈ errs, PySem.W.exmAny X.K (.ref C) [c1, c2, c3] = some true) (m1 : X.mg x1 = some c1) (m2 : X.mg x2 = some c2) (m3 : X.mg x3 = some c3)
    (hb : ∀ (pn : List (Addr × Obj)) (xe : Value → Shared → Prop) (E' : XK), Takes (X.tr pn xe) (fun cls d _ H => E' cls d H) → Cg gz (X.tr pn xe) E' k → ASs (X.tr pn xe) E' body wb)
    (hij : i ≠ j) (g1 : Gl X x1 := by rfl) (g2 : Gl X x2 := by rfl) (g3 : Gl X x3 := by rfl) (d1 : (x1 == ("__debug__" : Str)) = false := by decide) (d2 : (x2 == ("__debug__" : Str)) = false := by decide) (d3 : (x3 == ("__debug__" : Str)) = false := by decide)
    (tk : Takes X (fun cls d _ H => E cls d H) := by exact takes_of rfl rfl rfl rfl)
    (hi : X.N[i]? = some n := by rfl) (hj : X.N[j]? = some y := by rfl) (hs : X.stack = X.env :: X.outer := by rfl) (hf : X.env.frame = some X.env.locals := by rfl) (hex : X.ex = [] := by rfl) (hln : X.env.kindOf n = some .local := by rfl)
    (hy : Loc X.env.scope y := by first | exact Or.inl rfl | exact Or.inr rfl) (hfy : X.fn y = true ∨ X.env.scope.names.lookup y = some .local := by first | exact .inl rfl | exact .inr rfl) (hv : Vis X.env.scope n := by exact Or.inl rfl)
    (hsw : swapsWith (.Name n p2) (some (.Name y p1)) p3.line X.env = pure false := by rfl) (hd : (n == ("__debug__" : Str)) = false := by decide) (hcd : (n == ("__classdict__" : Str)) = false := by decide) :
    AS X E (.Try body [.ExceptHandler (some (.Tuple [.Name x1 q1, .Name x2 q2, .Name x3 q3] kk q4)) (some n) [.Assign [.Name y p1] (.Name n p2) p3] pos'] [] [] pos) (wTry errs X.N.length j wb) := by
  have li : i < X.N.length := (List.getElem?_eq_some_iff.mp hi).1
  have lj : j < X.N.length := (List.getElem?_eq_some_iff.mp hj).1
  have hmo : MoS wb := by
    have tk2 : Takes (X.tr X.pn X.xe) (fun cls d _ H => E cls d H) := tk
    refine (hb X.pn X.xe E tk2 ?_).mo
    exact ⟨c.room, c.gd, c.calm, c.nd, passes_call (X := X.tr X.pn X.xe) tk2 (fun _ _ _ _ z => z), c.po⟩
  refine ⟨PS.imp (ps_try_keep (j := j) (ok := fun cls => PySem.W.exmAny X.K cls [c1, c2, c3]) (Wout := fun cls d _ H => E cls d H) (tb := fun W => tS X.K (fun cls d H => ∀ σ : L2.St, σ.length = X.N.length → W cls d σ H) wb)
    hex hs hf c.nd hi hln (xt_three ⟨g1, d1, .inl m1⟩ ⟨g2, d2, .inl m2⟩ ⟨g3, d3, .inl m3⟩) tk (fun W pn xe t po => (hb pn xe _ (takes_len t) (cg_try c t po)).run) (fun a pn => pss_one (ps_set (X := X.suite a pn) c.nd hj hy (pe_var (X := X.suite a pn) hi hv hd hcd) hsw hfy)) li) fun D σ H hq => ?_, fun D D' ρ h hD q => hmo { D with ex := exH errs X.N.length j D } { D' with ex := exH errs X.N.length j D' } ρ h ⟨hD.nx, hD.rt, hD.bk, hD.ct, fun x h1 z => ?_⟩ q⟩
  · obtain ⟨F, ρ, h, S, R, q⟩ := hq
    refine ⟨F, ρ, h, S, R, hmo { LD X.K F D E with ex := exH errs X.N.length j (LD X.K F D E) } _ ρ h ⟨fun _ _ z => z, fun _ _ z => z, fun _ _ z => z, fun _ _ z => z, fun x h1 z => ?_⟩ q⟩
    intro F1 H1 cls d e1 S1 rx
    cases x with
    | blt b => exact z.elim
    | own C fs =>
      obtain ⟨hC, z⟩ := z
      intro σ1 l1
      have hcls : cls = .ref C := rx.1
      refine ⟨true, by rw [hcls]; exact he C hC, fun _ => ⟨C, hcls, fun a na => ?_⟩, fun z => Bool.noConfusion z⟩
      obtain ⟨F2, e2, S2, rep⟩ := keep_sim S1 rx na
      refine z F2 _ _ (e1.trans e2) S2 ⟨by simp [l1], fun m d hm => ?_⟩
      by_cases c : m = j
      · subst c
        rw [List.getElem?_set_self (by simpa using lj)] at hm
        obtain rfl := Option.some.inj (Option.some.inj hm)
        refine ⟨.ref a, ?_, rep⟩
        rw [List.getElem?_set_ne hij, List.getElem?_set_self (by simpa [l1] using lj)]
      · rw [List.getElem?_set_ne (Ne.symm c), List.getElem?_replicate] at hm
        split at hm <;> cases hm
  · cases x with
    | blt b => exact z
    | own C fs => exact ⟨z.1, hD.nx _ _ z.2⟩
end
theorem u_try {errs : List Addr} {n j : Nat} {wb : WS} {D : EndsD} {ρ : EnvD} {h : AH} : wTry errs n j wb D ρ h = wb { D with ex := exH errs n j D } ρ h := rfl
end DL
/-! x(lambda: ..), over data -/
namespace DL
open PySem PySem.Spec L2 C8 PyProof.Rows LamX
section
variable {X : Cx} {pins : List (Addr × Obj)} {σ : L2.St} {H : Hp} {s : Shared}
/-- the lambda is made; its code object is known -/
theorem lam_make3 {F : Hp} {h : AH} {c P : Addr} {params : Arguments} {body : Expr} {scope : Scope} {pos : Pos} {E : Value → Shared → Prop} {Q : Value → Shared → Prop} (I : Inv X pins σ H s) (TB : TabB X.base X.mg c P) (hcode : X.env.code = .ref c) (S : Sim X.K F h H)
    (hP : h P = some (.tab (X.env.qual ++ "<lambda>"))) (hdef : defaultsOf params X.env = ([], [])) (hfree : ∀ y ∈ scope.names, y.2 = .free → ∃ c, X.env.cells.lookup y.1 = some c)
    (go : ∀ (f c' : Addr) (pm ctv : Value) (H1 F1 : Hp) (s' : Shared), Inv X pins σ H1 s' → Ext F F1 → Sim X.K F1 h H1 → s'.heap.get? f = some (PySem.W.kla_obj "<lambda>" (X.env.qual ++ "<lambda>") params body scope (cloFrom X.env.cells scope.names []) pm c' ctv) →
      H1 f = none → f ∉ frs X.stack → F1 c' = some (CodeO c' (X.env.qual ++ "<lambda>")) → Q (.ref f) s') :
    wpAny (model X.prog X.w) X.A (eval (.Lambda params body scope pos) X.env) Q E s := by
  obtain ⟨FP, u, HP, ps, rfl, tr, am⟩ := S.ob _ _ hP
  refine PySem.W.kla_eval hdef ?_
  have builtP : s.heap.BuiltinsAt X.mg P := TB.bm.keeps I.bk
  have atP : s.heap.get? P = some { cls := .none, data := .fields ps } := I.hok P _ HP
  have outside : ∀ f, s.heap.objs.size ≤ f → f ∉ frs X.stack := fun f hf z => by
    rcases List.mem_cons.mp (I.stkSub _ z) with e | e
    · have l1 := I.lt
      rw [← e] at l1
      exact Nat.lt_irrefl _ (Nat.lt_of_lt_of_le l1 hf)
    · exact I.nofs hf e
  cases hc : codeAmong pos ps.toList with
  | some cv =>
    obtain ⟨c', rfl, hF⟩ := am pos cv hc
    refine PySem.W.kla_makeFunctionHit (mg := X.mg) (c := c) (P := P) (ps := ps) (closure_ok hfree) I.ok.glob (I.mod.glob.keeps I.bk) hcode (TB.code.keeps I.bk) atP tr hc builtP fun ctv h2 tk2 kx hsz => ?_
    exact go h2.objs.size c' ((X.mg "__name__").getD .none) ctv H F _ (I.kept fun b o e => Heap.get?_push_of_some _ (kx b o e)) (Ext.refl F) S (Heap.get?_push_size _ rfl) (I.hok.fresh hsz) (outside _ hsz) hF
  | none =>
    refine PySem.W.kla_makeFunction (mg := X.mg) (c := c) (P := P) (ps := ps) (closure_ok hfree) I.ok.glob (I.mod.glob.keeps I.bk) hcode (TB.code.keeps I.bk) atP tr hc TB.gP builtP fun c' ctv h2 tk2 kx hge hlt rec2 tb2 => ?_
    obtain ⟨c2, oc, vs, t, e2, hoc, hd, hv⟩ := rec2
    obtain rfl := Value.ref.inj e2
    have sz : s.heap.objs.size ≤ h2.objs.size := Nat.le_trans hge (Nat.le_of_lt hlt)
    have nC : H c' = none := I.hok.fresh hge
    have J := inv_table (t' := tk2) (more := #[rawInt pos.line, rawInt pos.col, .ref c']) (h' := h2.push (PySem.W.kla_obj "<lambda>" (X.env.qual ++ "<lambda>") params body scope (cloFrom X.env.cells scope.names []) ((X.mg "__name__").getD .none) c' ctv)) I HP
      (fun b o hb e => Heap.get?_push_of_some _ (kx b o hb e)) (Heap.get?_push_of_some _ tb2) hge ⟨oc, vs, t, Heap.get?_push_of_some _ hoc, hd, hv⟩
    have nF : F c' = none := (S.free nC).1
    have ex1 : Ext F (upd F c' (CodeO c' (X.env.qual ++ "<lambda>"))) := ext_upd nF
    have tl : (ps ++ #[rawInt pos.line, rawInt pos.col, .ref c']).toList = ps.toList ++ [rawInt pos.line, rawInt pos.col, .ref c'] := by simp
    have nPc : P ≠ c' := fun z => by rw [z, nC] at HP; cases HP
    have S1 : Sim X.K (upd F c' (CodeO c' (X.env.qual ++ "<lambda>"))) h (upd (upd H P (.tbl (ps ++ #[rawInt pos.line, rawInt pos.col, .ref c']))) c' (CodeO c' (X.env.qual ++ "<lambda>"))) := by
      refine ⟨fun a o q => ?_, fun a o q => ?_⟩
      · by_cases h1 : a = c'
        · subst h1; rw [upd_same] at q ⊢; exact q
        · rw [upd_ne h1] at q
          have h3 : a ≠ P := fun z => by rw [z, FP] at q; cases q
          rw [upd_ne h1, upd_ne h3]; exact S.fz _ _ q
      · obtain ⟨fa, w, hw, r⟩ := S.ob _ _ q
        have h1 : a ≠ c' := fun z => by rw [z, nC] at hw; cases hw
        refine ⟨by rw [upd_ne h1]; exact fa, ?_⟩
        by_cases h3 : a = P
        · subst h3
          obtain rfl := Option.some.inj (hP.symm.trans q)
          refine ⟨_, by rw [upd_ne h1, upd_same], _, rfl, by rw [tl]; exact PySem.TriplesOk_snoc _ _ _ _ tr, fun p2 cv2 hc2 => ?_⟩
          rw [tl] at hc2
          rcases among_app _ tr hc2 with z | z
          · obtain ⟨c0, e1, e2⟩ := am p2 cv2 z
            exact ⟨c0, e1, ex1 _ _ e2⟩
          · exact ⟨c', z, upd_same⟩
        · exact ⟨w, by rw [upd_ne h1, upd_ne h3]; exact hw, r.ext ex1⟩
    have n1 : h2.objs.size ≠ c' := Nat.ne_of_gt hlt
    have n2 : h2.objs.size ≠ P := Nat.ne_of_gt (Nat.lt_of_lt_of_le (Heap.lt_size atP) sz)
    exact go h2.objs.size c' ((X.mg "__name__").getD .none) ctv _ _ _ J ex1 S1 (Heap.get?_push_size _ rfl) (by rw [upd_ne n1, upd_ne n2]; exact I.hok.fresh sz) (outside _ sz) upd_same
end
/-! ### thunks -/
abbrev Thk := AH → KD → KX → Prop
/-- monotone -/
def MoK (tl : Thk) : Prop := ∀ h Q Q' X X', (∀ d h, Q d h → Q' d h) → (∀ x h, X x h → X' x h) → tl h Q X → tl h Q' X'
abbrev HSpec := Thk → AH → KD → KX → Prop
def MoH (HS : HSpec) : Prop := ∀ t, MoK t → ∀ h Q Q' X X', (∀ d h, Q d h → Q' d h) → (∀ x h, X x h → X' x h) → HS t h Q X → HS t h Q' X'
/-- a call of the thunk d that slot i holds -/
def wAct (i : Nat) (d : D) (tl : Thk) : WE := fun ρ h Q X => ρ[i]? = some (some d) ∧ tl h Q X
/-- in the body of a def that gets a thunk: it may be called in a try -/
def ActOk (X : Cx) (a : Str) (d : D) (tl : Thk) : Prop := ∀ (pn : List (Addr × Obj)) (xe : Value → Shared → Prop) (E' : XK) (p1 p2 : Pos), Takes (X.tr pn xe) (fun cls d _ H => E' cls d H) → AE (X.tr pn xe) E' (.Call (.Name a p1) [] [] p2) (wAct 0 d tl)
section
variable (P : Program) (w : World) (K : PySem.W.Frag) (mg : Str → Option Value) (base : Heap)
/-- a def of the module that gets a thunk -/
structure HCal (gz : Bool) (x : Str) (k : Nat) (HS : HSpec) : Prop where
  ex : ∃ (g : Addr) (fd : FuncData) (st : Stmt) (N : List Str) (a : Str) (W : D → Thk → WS), mg x = some (.ref g) ∧ L2.Fun K x x st g fd ∧ FnScope N [a] (defScope st) ∧ N[0]? = some a ∧ Vis (defScope st) a ∧ (a == ("__debug__" : Str)) = false ∧ (a == ("__classdict__" : Str)) = false ∧
    (∀ (s : Shared) (u : Value), BindsTo s fd ⟨[u], []⟩ [(a, u)]) ∧
    (∀ (d : D) (tl : Thk), MoK tl → ∀ (cdv : Value) (A : Around) (outer : List PySem.Env) (s : Shared) (H : Hp) (E : XK), Cg gz (cxOf (L2.CX P w) P w K mg base N x (defScope st) g cdv A outer s H E) E k →
      ActOk (cxOf (L2.CX P w) P w K mg base N x (defScope st) g cdv A outer s H E) a d tl → ASs (cxOf (L2.CX P w) P w K mg base N x (defScope st) g cdv A outer s H E) E (defBody st) (W d tl)) ∧
    ∀ d tl, MoK tl → ∀ h Q X, HS tl h Q X → W d tl (endsD Q X) (startD N.length [d]) h
  mo : MoH HS
end
/-- x(lambda: e): the table at P, the reading of e -/
def wHeard (HS : HSpec) (P : Addr) (q : Str) (we : WE) : WE := fun ρ h Q X => h P = some (.tab q) ∧ HS (we ρ) h Q X
section
variable {X : Cx} {E : XK} {gz gy : Bool} {k j : Nat} {x : Str} {HS : HSpec} {c P : Addr} {params : Arguments} {body : Expr} {scope : Scope} {p lpos pos : Pos} {we : WE}
/-- in the body of the lambda -/
theorem cg_lam (c : Cg gz X E k) {A : Around} {outer : List PySem.Env} {s : Shared} {H : Hp} {E' : XK} {f c' : Addr} {m : Nat} (hr : Room m (A.deeper (lamEnv X scope s.heap.objs.size f c'))) : Cg false (lamCx X A outer s H E' scope f c') E' m :=
  ⟨hr, fun z => Bool.noConfusion z, rfl, c.nd, passes_call (X := lamCx X A outer s H E' scope f c') (takes_of rfl rfl rfl rfl) (fun _ _ _ _ z => z), passes_of rfl⟩
theorem ae_heard (c : Cg gz X E k) (M : HCal X.prog X.w X.K X.mg X.base gy x j HS) (hz : gy = true → gz = true) {cc : Addr} (TB : TabB X.base X.mg cc P) (hcode : X.env.code = .ref cc) (hj : j + 1 ≤ k)
    (he : ∀ (A : Around) (outer : List PySem.Env) (s : Shared) (H : Hp) (E' : XK) (f c' : Addr), Cg false (lamCx X A outer s H E' scope f c') E' (k - 2) → AE (lamCx X A outer s H E' scope f c') E' body we)
    (L : LamS X.env.scope scope) (hk2 : 2 ≤ k) (hdef : defaultsOf params X.env = ([], []) := by rfl)
    (hbind : ∀ (q : Str) (cl : List (Str × Addr)) (pm cv ctv : Value), bindArgs (PySem.W.kla_fn "<lambda>" q params body scope cl pm cv ctv) ⟨[], []⟩ = pure [] := by intro _ _ _ _ _; rfl) (hg : Gl X x := by rfl)
    (hdb : (x == ("__debug__" : Str)) = false := by decide) :
    AE X E (.Call (.Name x p) [.Lambda params body scope lpos] [] pos) (wHeard HS P (X.env.qual ++ "<lambda>") we) := by
  obtain ⟨g, fd, st, N, a, W, hm, Fn, sc, hN0, hva, ha1, ha2, hb, bodyH, pureH⟩ := M.ex
  obtain ⟨oc, od, kV, doc, pm0, an, cdv, ct, osl, rfl, lk, hcd⟩ := Fn.ex
  have room1 : ∀ (e : PySem.Env), Room (k - 1) (X.A.deeper e) := fun e => (c.room.mono (j := k - 1 + 1) (by omega)).deeper e
  have room2 : ∀ (e e2 : PySem.Env), Room (k - 2) ((X.A.deeper e).deeper e2) := fun e e2 => ((room1 e).mono (j := k - 2 + 1) (by omega)).deeper e2
  have moE : MoE we := (he (X.A.deeper X.env) X.outer X.s_0 X.H_0 E 0 0 (cg_lam c (room2 _ _))).mo
  have moW : ∀ ρ, MoK (we ρ) := fun ρ h Q Q' X X' hQ hX z => moE _ _ _ _ _ _ hQ hX z
  refine ⟨⟨fun pins s σ H Q I hq => ?_⟩, fun ρ h0 Q Q' X X' hq hx q => ⟨q.1, M.mo _ (moW ρ) _ _ _ _ _ hq hx q.2⟩⟩
  obtain ⟨F, ρ, h, S, R, hP, q⟩ := hq
  refine wpAny_Call_Name_kw (ld_glob I hg hm ?_ hdb)
  refine PySem.W.callWith_K (h₀ := X.base) I.ok.mod.kin Fn.kp ?_ (by rfl) (by rfl)
  show wpAny _ _ (spliced ((false, eval (.Lambda params body scope lpos) X.env) :: backTo pos (starEach [] X.env))) _ _ s
  refine Calls.spliced_cons (lam_make3 I TB hcode S hP hdef (L.has I.ok) fun f c' pm ctv H1 F1 s1 I1 e1 S1 hf hfn hfr hco => Calls.spliced_nil ⟨I1.kIn, ?_⟩)
  have R1 := R.ext e1
  have rc : codeAny (model X.prog X.w) X.A (.call (.ref g) ⟨[.ref f], []⟩) (CR (L2.CX X.prog X.w) X.stack X.prog X.w H1 s1 Q E) s1 := by
    have inK : X.K.In s1.heap := I1.kIn
    refine codeAny_call_function c.room.depth (inK _ _ lk) rfl sc.co sc.gen rfl (PySem.W.codeRec_of inK hcd) (hb _ _ _ _ _ _ ?_)
    have kinds : ∀ y ∈ [(a, Value.ref f)], (defScope st).names.lookup y.1 = some .local ∨ ((defScope st).names.lookup y.1 = some .cell ∧ ((cellsFrom (s1.heap.objs.size + 1) (defScope st).names []).lookup y.1).isSome = true) := fun ⟨n, v⟩ hy => by
      have e : (n, v) = (a, Value.ref f) := by simpa using hy
      obtain ⟨rfl, rfl⟩ := Prod.mk.inj e
      cases sc.par n (by simp) with
      | inl q => exact .inl q
      | inr q => exact .inr ⟨q, PySem.W.cellsFrom_some _ _ _ (.inl q)⟩
    refine wpAny_newFunctionEnv_cells sc.kind kinds fun env hE s2 ic => ?_
    subst hE
    refine ⟨I1.nolimit.keeps ic.toInCall.keep, codeAny_func ?_⟩
    have I2 := inv_start (CX := L2.CX X.prog X.w) (P := X.prog) (w := X.w) (mg := X.mg) (base := X.base) (E := E) (vs := [V.ref f]) (us := [Value.ref f]) sc c.room.hd I1.env0 rfl (.cons rfl .nil) ic
    have cg : Cg gy (cxOf (L2.CX X.prog X.w) X.prog X.w X.K X.mg X.base N x (defScope st) g cdv X.A X.stack s1 H1 E) E j :=
      ⟨(room1 _).mono (by omega), fun z => c.gd (hz z), rfl, sc.nd, passes_call (takes_of rfl rfl rfl rfl) fun _ _ _ _ z => z, passes_of rfl⟩
    have act : ActOk (cxOf (L2.CX X.prog X.w) X.prog X.w X.K X.mg X.base N x (defScope st) g cdv X.A X.stack s1 H1 E) a (.lam f c' (X.env.qual ++ "<lambda>") ρ σ) (we ρ) := fun pn xe E' p1 p2 tk => by
      refine ⟨PE.imp (pe_act (i := 0) (k := k - 2) (tb := tE X.K E' we) I1 L hf hfn hfr (hbind _ _ _ _ _) tk (fun _ _ _ _ z => z) ((room1 _).mono (by omega)) (fun A outer s H r2 => (he A outer s H E' f c' (cg_lam c r2)).run) hN0 hva ha1 ha2) fun σZ HZ Q hq => ?_, fun ρ1 h1 Q Q' X X' hQ hX z => ⟨z.1, moE _ _ _ _ _ _ hQ hX z.2⟩⟩
      obtain ⟨F3, ρz, h3, S3, R3, hd, q3⟩ := hq
      obtain ⟨v, hv, rep⟩ := R3.2 0 _ hd
      cases rep with
      | lam hc re => exact ⟨hv, S3.fz _ _ hc, F3, ρ, h3, S3, re.env, q3⟩
    have B := bodyH (.lam f c' (X.env.qual ++ "<lambda>") ρ σ) (we ρ) (fun h Q Q' X X' hQ hX z => moE _ _ _ _ _ _ hQ hX z) cdv X.A X.stack s1 H1 E cg act
    have go : tS X.K E (W (.lam f c' (X.env.qual ++ "<lambda>") ρ σ) (we ρ)) { nx := fun _ H' => Q .non H', rt := Q } (L2.start N [.ref f]) H1 := by
      refine ⟨F1, _, h, S1, start_env (ds := [.lam f c' (X.env.qual ++ "<lambda>") ρ σ]) (.cons (.lam hco R1.rep) .nil), B.mo (endsD (LQ X.K F1 Q) (LX X.K F1 E)) _ _ _ ⟨fun ρ h z => ?_, fun d h z => LQ.fin z, fun _ _ z => False.elim z, fun _ _ z => False.elim z, fun _ _ z => z⟩ (pureH _ (we ρ) (moW ρ) h _ _ (M.mo _ (moW ρ) _ _ _ _ _ (fun d h z => LQ.ext e1 z) (fun x h z => LX.ext e1 z) q))⟩
      exact fun F' H' σ' e S' _ => LQ.fin z F' H' .non e S' .non
    refine wpAny_mono (B.run.run [] s2 _ H1 _ I2 go) (fun fl s' hq => ?_) fun e s' hq => hq
    cases fl with
    | ret u =>
      obtain ⟨v, σ', H', J, rv, q⟩ := hq
      exact ⟨v, H', J.os, J.bare, J.base, J.hok, rv, q⟩
    | next =>
      obtain ⟨σ', H', J, q⟩ := hq
      exact ⟨.non, H', J.os, J.bare, J.base, J.hok, rfl, q⟩
    | brk => obtain ⟨_, _, _, q⟩ := hq; exact q.elim
    | cont => obtain ⟨_, _, _, q⟩ := hq; exact q.elim
  refine wpAny_call (codeAny_mono rc fun r s3 hq => ?_)
  match r, hq with
  | .error e, hq => exact c.ps pins σ H1 s1 e s3 I1 hq
  | .ok (.ret u), hq => exact I1.after hq
  | .ok .next, hq => exact hq.elim
  | .ok .brk, hq => exact hq.elim
  | .ok .cont, hq => exact hq.elim
end
end DL
/-! the end of a law that makes lambdas; defs that make lambdas -/
namespace DL
open PySem PySem.Spec L2 C8 PyProof.Rows LamX
/-- a def whose code object is known -/
structure FunC (K : PySem.W.Frag) (x qual : Str) (st : Stmt) (f : Addr) (fd : FuncData) (cc : Addr) : Prop where
  ex : ∃ (oc : Value) (od : Option Addr) (kV doc pm : Value) (an : Option Addr) (ct : Value) (osl : Array (Option Value)),
    fd = PySem.W.fnOf x qual (defArgs st) (defBody st) (defScope st) .none kV doc pm an (.ref cc) ct ∧ K.lookup f = some ⟨oc, od, .func fd, osl⟩ ∧ PySem.W.codeIn K (.ref cc) qual = true
theorem FunC.of {K : PySem.W.Frag} {x qual : Str} {st : Stmt} {f : Addr} {fd : FuncData} {cc : Addr} (F : L2.Fun K x qual st f fd) (h : fd.code = .ref cc) : FunC K x qual st f fd cc := by
  obtain ⟨oc, od, kV, doc, pm, an, cdv, ct, osl, rfl, lk, hcd⟩ := F.ex
  have e : cdv = .ref cc := h
  subst e
  exact ⟨oc, od, kV, doc, pm, an, ct, osl, rfl, lk, hcd⟩
/-- the code object and the table of a def of the module -/
theorem tabIn_of {K : PySem.W.Frag} {x : Str} {f cc P : Addr} {oc kc : Value} {od kd : Option Addr} {fd : FuncData} {osl ks : Array (Option Value)} {vs : Array Value} (hn : PySem.W.nsIn K mainGlobals x = some (some (.ref f))) (hf : K.lookup f = some ⟨oc, od, .func fd, osl⟩) (hc : fd.code = .ref cc)
    (hk : K.lookup cc = some ⟨kc, kd, .fields vs, ks⟩) (hv : vs[11]? = some (.ref P)) : PySem.W.tabIn K x = some (cc, P) := by
  unfold PySem.W.tabIn
  simp only [hn, hf, hc, hk, hv]
/-- three classes in an except clause -/
theorem exm3_of {K : PySem.W.Frag} {cls : Value} {C1 C2 C3 : Addr} {b1 b2 b3 : Bool} (h1 : PySem.W.exmOne K cls (.ref C1) = some b1) (h2 : PySem.W.exmOne K cls (.ref C2) = some b2) (h3 : PySem.W.exmOne K cls (.ref C3) = some b3) (hb : (b1 || (b2 || (b3 || false))) = true) :
    PySem.W.exmAny K cls [.ref C1, .ref C2, .ref C3] = some true := by
  simp only [PySem.W.exmAny, h1, h2, h3, hb]
section
variable {P : Program} {w : World} {K : PySem.W.Frag} {mg : Str → Option Value} {base : Heap}
/-- THE RULE for a def whose code object is known -/
theorem fng_ofC {gz : Bool} {x qual : Str} {st : Stmt} {f cc : Addr} {fd : FuncData} {N ps : List Str} {k : Nat} {S : FSpec} {W : WS}
    (F : FunC K x qual st f fd cc) (sc : FnScope N ps (defScope st)) (len : ∀ ds h Q X, S ds h Q X → ds.length = ps.length) (mo : MoF S)
    (body : ∀ (A : Around) (outer : List PySem.Env) (s : Shared) (H : Hp) (E : XK), Cg gz (cxOf (L2.CX P w) P w K mg base N qual (defScope st) f (.ref cc) A outer s H E) E k →
      ASs (cxOf (L2.CX P w) P w K mg base N qual (defScope st) f (.ref cc) A outer s H E) E (defBody st) W)
    (pure : ∀ ds h Q X, S ds h Q X → W (endsD Q X) (startD N.length ds) h) : FnG gz P w K mg base (k + 1) f fd ps S := by
  refine ⟨len, mo, fun {A outer s H args us vs Q E} hr hg e0 hb hv hs => ?_⟩
  obtain ⟨oc, od, kV, doc, pm, an, ct, osl, rfl, lk, hcd⟩ := F.ex
  have lenv := spD_len len hs
  have inK : K.In s.heap := e0.mod.kin.keeps fun b o e => (e0.bs b o e).1
  have nol : s.heap.NoLimit := e0.mod.nolimit.keeps fun b o e => (e0.bs b o e).1
  have kinds : ∀ y ∈ ps.zip us, (defScope st).names.lookup y.1 = some .local ∨ ((defScope st).names.lookup y.1 = some .cell ∧ ((cellsFrom (s.heap.objs.size + 1) (defScope st).names []).lookup y.1).isSome = true) := by
    rintro ⟨n, v⟩ hy
    rcases sc.par n (List.of_mem_zip hy).1 with q | q
    · exact .inl q
    · exact .inr ⟨q, PySem.W.cellsFrom_some _ _ _ (.inl q)⟩
  refine codeAny_call_function hr.depth (inK _ _ lk) rfl sc.co sc.gen rfl (PySem.W.codeRec_of inK hcd) (hb _ _ _ _ (wpAny_newFunctionEnv_cells sc.kind kinds fun env he s1 ic => ?_))
  subst he
  refine ⟨nol.keeps ic.toInCall.keep, codeAny_func ?_⟩
  have I := inv_start (CX := L2.CX P w) (P := P) (w := w) (mg := mg) (base := base) (E := E) sc hr.hd e0 lenv hv ic
  have c : Cg gz (cxOf (L2.CX P w) P w K mg base N qual (defScope st) f (.ref cc) A outer s H E) E k := ⟨hr.deeper _, hg, rfl, sc.nd, passes_call (takes_of rfl rfl rfl rfl) fun _ _ _ _ z => z, passes_of rfl⟩
  obtain ⟨F0, ds, g, S0, r0, q0⟩ := hs
  have B := body A outer s H E c
  have go : tS K E W { nx := fun _ H' => Q .non H', rt := Q } (L2.start N vs) H :=
    ⟨F0, _, g, S0, start_env r0, B.mo (endsD (LQ K F0 Q) (LX K F0 E)) _ _ _ ⟨fun ρ h z F' H' σ' e S' _ => LQ.fin z F' H' .non e S' .non, fun d h z => LQ.fin z, fun _ _ z => False.elim z, fun _ _ z => False.elim z, fun _ _ z => z⟩ (pure ds g _ _ q0)⟩
  refine wpAny_mono (B.run.run [] s1 _ H _ I go) (fun fl s' hq => ?_) fun e s' hq => hq
  cases fl with
  | ret u =>
    obtain ⟨v, σ', H', J, rv, q⟩ := hq
    exact ⟨v, H', J.os, J.bare, J.base, J.hok, rv, q⟩
  | next =>
    obtain ⟨σ', H', J, q⟩ := hq
    exact ⟨.non, H', J.os, J.bare, J.base, J.hok, rfl, q⟩
  | brk => obtain ⟨_, _, _, q⟩ := hq; exact q.elim
  | cont => obtain ⟨_, _, _, q⟩ := hq; exact q.elim
end
/-- what is known of the law at the head's heap: T tells the tables: code object, table, the lambdas' name -/
structure LawT (gz : Bool) (l : PySem.W.OpenLaw) (w : World) (K : PySem.W.Frag) (k n : Nat) (x : Str) (mg : Str → Option Value) (fa : Addr) (names : List Str) : Prop where
  ex : ∃ (fd : FuncData) (S : FSpec) (T : List (Str × Addr × Addr × Str)), (∀ (s : Shared) (u : Value), BindsTo s fd ⟨[u], []⟩ [(x, u)]) ∧ (∀ p ∈ T, p.1 ∈ names ∧ PySem.W.tabIn K p.1 = some (p.2.1, p.2.2.1) ∧ K.lookup p.2.2.1 = none) ∧
    (∀ (js : List Int) (h : AH), js.length ≤ n → (∀ p ∈ T, h p.2.2.1 = some (.tab p.2.2.2)) → S [.lk (js.map D.int)] h (fun d _ => d = .bl true) (fun _ _ => False)) ∧ (T.map (·.2.2.1)).Nodup ∧
    ∀ base : Heap, K.In base → base.Ns mainGlobals mg → (∀ p ∈ T, TabB base mg p.2.1 p.2.2.1) → FnG gz l.prog w K mg base k fa fd [x] S
section
variable {P : Program} {w : World} {K : PySem.W.Frag} {mg bm : Str → Option Value} {k : Nat} {fa q : Addr} {fd : FuncData} {x : Str} {S : FSpec} {t : Shared} {us : List Value} {js : List Int} {T : List (Str × Addr × Addr × Str)}
theorem tabs_at {ob : Addr → Option AO} : ∀ {T : List (Str × Addr × Addr × Str)}, (T.map (·.2.2.1)).Nodup → ∃ h : AH, (∀ p ∈ T, h p.2.2.1 = some (.tab p.2.2.2)) ∧ ∀ b o, h b = some o → ∃ p ∈ T, b = p.2.2.1 ∧ o = .tab p.2.2.2
  | [], _ => ⟨fun _ => none, ⟨fun p hp => (nomatch hp), fun b o e => (nomatch e)⟩⟩
  | p :: T, nd => by
    rw [List.map_cons, List.nodup_cons] at nd
    obtain ⟨h, h1, h2⟩ := tabs_at (ob := ob) nd.2
    refine ⟨up h p.2.2.1 (.tab p.2.2.2), fun p' hp' => ?_, fun b o e => ?_⟩
    · rcases List.mem_cons.mp hp' with rfl | hp'
      · exact up_same
      · rw [up_ne (fun z => nd.1 (by rw [← z]; exact List.mem_map.mpr ⟨p', hp', rfl⟩))]; exact h1 _ hp'
    · by_cases c : b = p.2.2.1
      · subst c
        rw [up_same] at e
        obtain rfl := Option.some.inj e
        exact ⟨p, List.mem_cons_self, rfl, rfl⟩
      · rw [up_ne c] at e
        obtain ⟨p', hp', z⟩ := h2 b o e
        exact ⟨p', List.mem_cons_of_mem _ hp', z⟩
theorem dl_callT (KX : K.In t.heap) (n1 : t.heap.Ns mainGlobals mg) (n2 : t.heap.Ns builtinsNs bm) (bb : ∀ y : Str, y ≠ "__name__" → bm y = bootBuiltins y) (nl : t.heap.NoLimit) (ng : t.gens = #[])
    (hT : ∀ p ∈ T, t.heap.get? p.2.2.1 = some { cls := .none, data := .fields #[] }) (nT : ∀ p ∈ T, K.lookup p.2.2.1 = none) (hC : ∀ p ∈ T, PySem.W.CodeHd t.heap p.2.1 p.2.2.1) (nd : (T.map (·.2.2.1)).Nodup)
    (hbm : ∃ (bm : Addr) (ob : Obj), mg "__builtins__" = some (.ref bm) ∧ bm ≠ builtinsNs ∧ t.heap.get? bm = some ob ∧ ob.cls = .type "module" ∧ ob.dict = some builtinsNs ∧ ob.data = .plain)
    (hq : t.heap.get? q = some { cls := .type "list", data := .seq us.toArray }) (ia : IntsAre us js) (lj : js.length ≤ sizeLine) (rm : Room k callerA)
    (G : ∀ base : Heap, K.In base → base.Ns mainGlobals mg → (∀ p ∈ T, TabB base mg p.2.1 p.2.2.1) → FnG gz P w K mg base k fa fd [x] S) (hb : ∀ (s : Shared) (u : Value), BindsTo s fd ⟨[u], []⟩ [(x, u)])
    (hS : ∀ h : AH, (∀ p ∈ T, h p.2.2.1 = some (.tab p.2.2.2)) → S [.lk (js.map D.int)] h (fun d _ => d = .bl true) (fun _ _ => False)) :
    codeAny (model P w) callerA (.call (.ref fa) ⟨[.ref q], []⟩) (fun r s' => r = .ok (.ret (.bool true)) ∧ OldK t.heap s'.heap ∧ s'.os = t.os ∧ AllBare s'.gens) t := by
  obtain ⟨H, B⟩ := beg_of (P := P) (w := w) KX hq ia lj
  obtain ⟨h0, t1, t2⟩ := tabs_at (ob := fun _ => none) nd
  have isT : ∀ b o, h0 b = some o → t.heap.get? b = some { cls := .none, data := .fields #[] } := fun b o e => by
    obtain ⟨p, hp, rfl, _⟩ := t2 b o e
    exact hT p hp
  have qT : h0 q = none := by
    cases e : h0 q with
    | none => rfl
    | some o =>
      have z := (isT q o e).symm.trans hq
      have z2 : Data.fields #[] = Data.seq us.toArray _ := congrArg Obj.data (Option.some.inj z)
      cases z2
  have HnT : ∀ b o, h0 b = some o → H b = none := fun b o e => by
    by_cases z : H b = none
    · exact z
    · obtain rfl := B.at_ b z
      rw [qT] at e; cases e
  have G0 : ∃ H2 : Hp, (∀ b o, h0 b = some o → H2 b = some (.tbl #[])) ∧ ∀ b, h0 b = none → H2 b = H b := by
    refine ⟨fun b => match h0 b with | some _ => some (.tbl #[]) | none => H b, fun b o e => ?_, fun b e => ?_⟩
    · show (match h0 b with | some _ => some (HO.tbl #[]) | none => H b) = _
      rw [e]
    · show (match h0 b with | some _ => some (HO.tbl #[]) | none => H b) = _
      rw [e]
  obtain ⟨H2, k1, k2⟩ := G0
  have fromH : ∀ b u, H b = some u → H2 b = some u := fun b u e => by
    have z : h0 b = none := by
      cases y : h0 b with
      | none => rfl
      | some o => rw [HnT b o y] at e; cases e
    rw [k2 b z]; exact e
  have ok2 : HOk P w H2 t.heap := fun b u e => by
    cases y : h0 b with
    | some o =>
      obtain rfl := Option.some.inj ((k1 b o y).symm.trans e)
      exact isT b o y
    | none =>
      rw [k2 b y] at e
      exact (B.ok b u e).stay (fun c v _ z => z) (fun c z => fromH _ _ z) fun c xs z => fromH _ _ z
  have low : ∀ {b : Addr} {ob : Obj}, t.heap.get? b = some ob → H2 b = none → (hidT t.heap H2).get? b = some ob := fun e z => hidT_get e z
  have noD : ∀ {b : Addr} {ob : Obj}, t.heap.get? b = some ob → (∀ v n, ob.data ≠ .seq v n) → ob.data ≠ .fields #[] → H2 b = none := by
    intro b ob e d1 d2
    cases y : h0 b with
    | some o =>
      obtain rfl := Option.some.inj ((isT b o y).symm.trans e)
      exact absurd rfl d2
    | none =>
      rw [k2 b y]
      by_cases z : H b = none
      · exact z
      · obtain rfl := B.at_ b z
        obtain rfl := Option.some.inj (hq.symm.trans e)
        exact absurd rfl (d1 _ _)
  have ns : ∀ {b : Addr} {m : Str → Option Value}, t.heap.Ns b m → (hidT t.heap H2).Ns b m := fun ⟨ob, es, ep, e, d, r⟩ => ⟨ob, es, ep, low e (noD e (fun v n z => by rw [d] at z; cases z) (fun z => by rw [d] at z; cases z)), d, r⟩
  have hK : K.In (hidT t.heap H2) := fun b ob e => low (KX b ob e) (by
    cases y : h0 b with
    | some o =>
      obtain ⟨p, hp, rfl, _⟩ := t2 b o y
      rw [nT p hp] at e; cases e
    | none =>
      rw [k2 b y]
      by_cases z : H b = none
      · exact z
      · obtain rfl := B.at_ b z
        rw [B.out z] at e; cases e)
  have M : Mod K mg (hidT t.heap H2) := by
    obtain ⟨mc, l1, l2⟩ := nl
    exact ⟨hK, ns n1, ⟨bm, ns n2, bb⟩, mc, ns l1, l2⟩
  have TB : ∀ p ∈ T, TabB (hidT t.heap H2) mg p.2.1 p.2.2.1 := fun p hp => by
    have hTp := hT p hp
    refine ⟨?_, ?_, fun z => ?_⟩
    · obtain ⟨o, vs, file, tf, flags, tg, inF, text, tt, e1, r1, r2, r3, r4, r5, r6, r7, r8, r9⟩ := hC p hp
      exact ⟨o, vs, file, tf, flags, tg, inF, text, tt, low e1 (noD e1 (fun v n z => by rw [r2] at z; cases z) (fun z => by rw [r2] at z; cases z; simp at r3)), r1, r2, r3, r4, r5, r6, r7, r8, r9⟩
    · obtain ⟨bm, ob, b1, b2, b3, b4, b5, b6⟩ := hbm
      refine ⟨bm, ob, b1, b2, fun z => ?_, fun z => ?_, low b3 (noD b3 (fun v n z => by rw [b6] at z; cases z) (fun z => by rw [b6] at z; cases z)), b4, b5, b6⟩
      · obtain ⟨o, es, ep, e, hd, _⟩ := n1
        rw [z, e] at b3
        obtain rfl := Option.some.inj b3
        rw [hd] at b6; cases b6
      · rw [z, hTp] at b3
        obtain rfl := Option.some.inj b3
        cases b6
    · obtain ⟨o, es, ep, e, hd, _⟩ := n1
      rw [z, hTp] at e
      obtain rfl := Option.some.inj e
      cases hd
  have none_in : ∀ {b : Addr}, b ∉ ([] : List Addr) := fun h => by cases h
  have e0 : Env0 P w K mg (hidT t.heap H2) callerA [] t H2 := ⟨rfl, M, fun b ob e => of_hidT e, Nat.le_of_eq (hidT_size _ _), trivial, fun b h => absurd h none_in, ok2, .of_eq ng⟩
  have FG := G _ hK (ns n1) TB
  have sp : spD K S [.ref q] H2 (fun v _ => v = .bl true) (fun _ _ _ => False) := by
    refine ⟨H, _, h0, ⟨fun a o e => fromH a o e, fun b o e => ⟨HnT b o e, _, k1 b o e, ?_⟩⟩, .cons (.lk B.sq ?_) .nil, FG.mo _ _ _ _ _ _ (fun d h e => ?_) (fun _ _ z => z.elim) (hS h0 t1)⟩
    · obtain ⟨p, hp, rfl, rfl⟩ := t2 b o e
      exact ⟨#[], rfl, True.intro, fun pos cv z => by simp [codeAmong] at z⟩
    · clear hS hq ia lj B e0 t1 t2 isT qT HnT fromH ok2
      induction js with
      | nil => exact .nil
      | cons j js ih => exact .cons (.int j) ih
    · intro F' H' v _ _ r
      subst e
      cases r; rfl
  refine codeAny_mono (FG.run (args := ⟨[.ref q], []⟩) (us := [.ref q]) (vs := [.ref q]) rm (fun _ => rfl) e0 (hb t (.ref q)) (.cons rfl .nil) sp) fun r s' h => ?_
  match r, h with
  | .error e, h => obtain ⟨_, _, _, _, _, _, _, _, _, _, _, _, h⟩ := h; exact h.elim
  | .ok .next, h => exact h.elim
  | .ok .brk, h => exact h.elim
  | .ok .cont, h => exact h.elim
  | .ok (.ret u), h =>
    obtain ⟨v, H3, os, bare, un, ok3, r2, e⟩ := h
    have e : v = .bl true := e
    subst e
    obtain rfl : u = Value.bool true := r2
    have grown : ∀ b o, h0 b = some o → ∃ more : Array Value, s'.heap.get? b = some { cls := .none, data := .fields more } := fun b o y => by
      obtain ⟨more, z⟩ := un.tbls b #[] (k1 b o y)
      exact ⟨_, ok3 b _ z⟩
    have rest : ∀ b ob, h0 b = none → t.heap.get? b = some ob → s'.heap.get? b = some ob := fun b ob y e => by
      rcases B.fz b with z | ⟨o2, ys, z⟩
      · exact un.keep b ob e (by rw [k2 b y]; exact z) none_in (by simp)
      · have d1 := (B.ok b _ z).1
        have d2 := (ok3 b _ (un.frzs b o2 _ (fromH _ _ z))).1
        rw [d1] at e
        obtain rfl := Option.some.inj e
        exact d2
    refine ⟨rfl, ⟨fun b o e => ?_, fun b o e => ?_⟩, os, bare⟩
    · cases y : h0 b with
      | none => exact .inl (rest b o y e)
      | some u =>
        obtain ⟨more, hm⟩ := grown b u y
        obtain ⟨p, hp, rfl, _⟩ := t2 b u y
        have e2 := hT p hp
        rw [e] at e2
        obtain rfl := Option.some.inj e2
        exact .inr (.inl ⟨((hC p hp).tab (hT p hp)).isCodeTable, rfl, #[], more, rfl, by rw [Array.empty_append]; exact hm⟩)
    · cases y : h0 b with
      | none => exact ⟨o, rest b o y e⟩
      | some u =>
        obtain ⟨more, hm⟩ := grown b u y
        exact ⟨_, hm⟩
end
end DL
namespace Hx
open PySem PySem.Spec PyProof.Rows L2 DL
/-- .. where defs make lambdas -/
theorem walkXT {gz : Bool} {l : PySem.W.OpenLaw} {n k : Nat} {p : Program} {loose : List Str} {XP : (Str → Option Value) → Heap → Prop} {YP : World → Heap → Prop} {d : DefRec} {x : Str} {names : List Str}
    (hn : l.most = some n) (hz : n ≤ sizeLine) (hd : d.params.defaults = []) (rm : Room k callerA) (hr : (names.all fun x => ((recsOf p).find? fun e => e.name == x).isSome) = true)
    (G : ∀ (w : World) (mg : Str → Option Value) (fa : Addr) (h : Heap), YP w h → h.Ns mainGlobals mg → mg d.name = some (.ref fa) → ∃ K : Fr, K.In h ∧ LawT gz l w K k n x mg fa names) :
    PySem.W.WalkO p loose XP YP l.row.toRowW d [] (fun f vs => PySem.call f vs) := by
  refine Att.attach_call hn hd fun w t0 t mg bm fa ob pm cd doc q us js Gr Y ho hdat hcd hmg hq ia lj ng => ?_
  obtain ⟨K, KX, L⟩ := G w mg fa _ Y Gr.T.g hmg
  obtain ⟨fd, S, T, hb, hT, hS, nd, hF⟩ := L.ex
  have tabs : ∀ p' ∈ T, PySem.W.CodeHd t.heap p'.2.1 p'.2.2.1 ∧ t.heap.get? p'.2.2.1 = some { cls := .none, data := .fields #[] } := fun p' hp => by
    obtain ⟨m, ht, _⟩ := hT p' hp
    obtain ⟨dr, hdr⟩ := Option.isSome_iff_exists.mp (List.all_eq_true.mp hr _ m)
    exact PySem.W.tab_of Gr.T KX hdr ht
  exact dl_callT KX Gr.T.g Gr.T.b Gr.T.builtins Gr.T.nolimit ng (fun p hp => (tabs p hp).2) (fun p hp => (hT p hp).2.2) (fun p hp => (tabs p hp).1) nd Gr.T.bmain hq ia (Nat.le_trans lj hz) rm hF hb (fun h hh => hS js h lj hh)
end Hx
namespace Hx
open PySem PySem.Spec PyProof.Rows L2 DL HandSHeadRun
/-- a look at the end of the run for the facts alone -/
def RunO (r : PySem.W.OpenRow) (q : Program) (H : PySem.W.Hook) (ob : PySem.W.SharedT → H.α) (M : Nat) (w : World) : Prop :=
  ∀ os : OsState, (endF (stepQ (denQ tabQ) r.prog w) M r.prog w os).map ob = some (H.val w)
theorem runO_join {r : PySem.W.OpenRow} {q : Program} {N : Nat} {no : List Addr} {t1 t2 : List (List (Fr → Bool))} {fn : List FnX} {M : Nat} {w : World}
    (h1 : RunO r q (hookX N no t1 []) (obT N no t1 []) M w) (h2 : RunO r q (hookX N no t2 fn) (obT N no t2 fn) M w) : RunO r q (hookX N no (t1 ++ t2) fn) (obT N no (t1 ++ t2) fn) M w := by
  intro os
  have a := h1 os
  have b := h2 os
  revert a b
  generalize endF _ _ _ _ _ = e
  cases e with
  | none => intro a; cases a
  | some s =>
    intro a b
    have a3 := Option.some.inj a
    have b3 := Option.some.inj b
    refine congrArg some ?_
    clear a b
    revert a3 b3
    unfold obT obX
    generalize frX N no (getT s) = K
    intro a3 b3
    have a4 := congrArg Prod.fst a3
    have b4 := congrArg Prod.fst b3
    have b5 := congrArg Prod.snd b3
    dsimp only at a4 b4 b5 ⊢
    rw [List.all_append, a4, b4, b5]
    rfl
theorem run_base {r : PySem.W.OpenRow} {q : Program} {N : Nat} {no : List Addr} {t : List (List (Fr → Bool))} {fn : List FnX} {M : Nat} {loose : List PySem.Str} {w : World}
    (hb : RunEq r q (hookX N no [] []) (obT N no [] []) M loose w) (h : RunO r q (hookX N no t fn) (obT N no t fn) M w) : RunEq r q (hookX N no t fn) (obT N no t fn) M loose w := by
  intro os
  have a := hb os
  have b := h os
  revert a b
  generalize endF _ _ _ _ _ = e
  cases e with
  | none => intro a; cases a
  | some s =>
    intro a b
    have a := Option.some.inj a
    have b := Option.some.inj b
    have a1 := congrArg (fun x => x.1) a
    have a2 := congrArg (fun x => x.2.1) a
    dsimp only at a1 a2
    exact congrArg some (Prod.ext a1 (Prod.ext a2 b))
end Hx
namespace DL
open PySem PySem.Spec L2 C8
section
variable {X : Cx} {E : XK} {k : Nat} {a b c e : Expr} {wa wb wc : WE} {pos : Pos} {op op' : CmpOp} {r r' : R2} {f g : D → D → AH → KD → Prop}
theorem to_chain (ok : OpD X.K r f) (ok' : OpD X.K r' g) (ha : AE X E a wa) (hb : AE X E b wb) (hc : AE X E c wc) {σ : L2.St} {H : Hp} {Q : VK} (h : tE X.K E (wChain f g wa wb wc) σ H Q) : tChain r r' (tE X.K E wa) (tE X.K E wb) (tE X.K E wc) σ H Q := by
  obtain ⟨F, ρ, g0, S, R, q⟩ := h
  refine ⟨F, ρ, g0, S, R, ha.mo _ _ _ _ _ _ (fun x h1 hx => ?_) (fun _ _ z => z) q⟩
  intro F1 H1 vx e1 S1 rx
  refine ⟨F1, ρ, h1, S1, R.ext e1, hb.mo _ _ _ _ _ _ (fun y h2 hf => ?_) (fun _ _ z => LX.ext e1 z) hx⟩
  intro F2 H2 vy e2 S2 ry
  refine ok.to S2 (rx.ext e2) ry (ok.mo (fun z h3 hz => ?_) hf)
  intro F3 H3 v3 e3 S3 r3
  split at hz
  · rename_i kk
    cases r3
    refine ⟨kk, rfl, ?_⟩
    split at hz
    · rename_i ck
      rw [if_pos ck]
      refine ⟨F3, ρ, h3, S3, R.ext (e1.trans (e2.trans e3)), hc.mo _ _ _ _ _ _ (fun u h4 hg => ?_) (fun _ _ z => LX.ext (e1.trans (e2.trans e3)) z) hz⟩
      intro F4 H4 vu e4 S4 ru
      exact ok'.to S4 (ry.ext (e3.trans e4)) ru (ok'.mo (fun _ _ z => LQ.ext (e1.trans (e2.trans (e3.trans e4))) z) hg)
    · rename_i ck
      rw [if_neg ck]
      exact hz F3 H3 _ (e1.trans (e2.trans e3)) S3 (.bl _)
  · exact hz.elim
theorem at_chain2 (ok : OpD X.K r f) (ok' : OpD X.K r' g) (ho : OpR X (compareOp op) r) (ho' : OpR X (compareOp op') r') (ha : AE X E a wa) (hb : AE X E b wb) (hc : AE X E c wc)
    (hm : lastMarks [op, op'] [b, c] = false := by with_unfolding_all rfl) : AT X E (.Compare a [op, op'] [b, c] pos) (wTest (wChain f g wa wb wc)) := by
  have M : MoE (wChain f g wa wb wc) := mo_chain ok.mo ok'.mo ha.mo hb.mo hc.mo
  refine ⟨PT.imp (pt_chain ho ho' ha.run hb.run hc.run hm) fun σ H Q ⟨F, ρ, g0, S, R, q⟩ => ?_, fun ρ h Q Q' X X' hq hx q => M _ _ _ _ _ _ (fun x h1 q1 => ?_) hx q⟩
  · refine to_chain ok ok' ha hb hc ⟨F, ρ, g0, S, R, M _ _ _ _ _ _ (fun x h1 hx => ?_) (fun _ _ z => z) q⟩
    intro F1 H1 vx e1 S1 rx
    split at hx
    · cases rx; exact ⟨_, rfl, hx F1 H1 e1 S1⟩
    · exact hx.elim
  · split at q1
    · exact hq _ _ q1
    · exact q1.elim
theorem ae_chain2 (ok : OpD X.K r f) (ok' : OpD X.K r' g) (ho : OpR X (compareOp op) r) (ho' : OpR X (compareOp op') r') (ha : AE X E a wa) (hb : AE X E b wb) (hc : AE X E c wc)
    (hm : lastMarks [op, op'] [b, c] = false := by with_unfolding_all rfl) : AE X E (.Compare a [op, op'] [b, c] pos) (wChain f g wa wb wc) :=
  ⟨PE.imp (pe_chain ho ho' ha.run hb.run hc.run hm) fun σ H Q h => to_chain ok ok' ha hb hc h, mo_chain ok.mo ok'.mo ha.mo hb.mo hc.mo⟩
end
/-! ### the built-in names -/
theorem bb_len : bootBuiltins "len" = some (.builtin "len") := by decide +kernel
theorem bb_abs : bootBuiltins "abs" = some (.builtin "abs") := by decide +kernel
theorem bb_sum : bootBuiltins "sum" = some (.builtin "sum") := by decide +kernel
theorem bb_any : bootBuiltins "any" = some (.builtin "any") := by decide +kernel
theorem bb_repr : bootBuiltins "repr" = some (.builtin "repr") := by decide +kernel
theorem bb_isinstance : bootBuiltins "isinstance" = some (.builtin "isinstance") := by decide +kernel
theorem bb_int : bootBuiltins "int" = some (.type "int") := by decide +kernel
theorem bb_bool : bootBuiltins "bool" = some (.type "bool") := by decide +kernel
theorem bb_list : bootBuiltins "list" = some (.type "list") := by decide +kernel
theorem bb_tuple : bootBuiltins "tuple" = some (.type "tuple") := by decide +kernel
/-- a name of the module that holds an int -/
theorem cst_int {K : PySem.W.Frag} {mg : Str → Option Value} {x : Str} {i : Int} {t : Tok} (h : mg x = some (.int i t)) : Cst K mg x (.int i) := ⟨⟨.int i, _, h, ⟨t, rfl⟩, fun _ => .int i⟩⟩
end DL
namespace PySem.W
open PySem PySem.Spec PySem.Calls PyProof.Rows
end PySem.W
namespace L2
open PySem PySem.Spec PyProof.Rows
end L2
namespace DL
open PySem PySem.Spec L2 C8
end DL
namespace DL
open PySem PySem.Spec L2 C8
/-! ### a tuple of texts that a name of the module holds -/
end DL
namespace K71
open PySem PySem.Spec L2 DL PyProof.Rows
/-! ### the text by places (printed by gen4.py) -/
def top (i : Nat) : Stmt := PySem.Challenge.pw_forkecho_k71_readings_added.main.body.getD i (.Pass ⟨0, 0, 0, 0⟩)
abbrev s_is_integer : Stmt := top 27
abbrev s_is_between : Stmt := top 28
abbrev s_common_divisor : Stmt := top 45
abbrev s_modulus_of : Stmt := top 47
abbrev s_shared : Stmt := top 48
abbrev s_do_agree : Stmt := top 49
abbrev s_need_capacity_meters : Stmt := top 54
abbrev s_need_bound : Stmt := top 56
abbrev s_Meter___init__ : Stmt := inClass (top 57) 0
abbrev s_Meter_readings : Stmt := inClass (top 57) 2
abbrev s_Meter_most : Stmt := inClass (top 57) 3
abbrev s_Meter_steps : Stmt := inClass (top 57) 5
abbrev s_Meter_settle : Stmt := inClass (top 57) 6
abbrev s_Meter_take : Stmt := inClass (top 57) 7
abbrev s_Meter_add : Stmt := inClass (top 57) 8
abbrev s_Meter___len__ : Stmt := inClass (top 57) 18
abbrev s_Meter___contains__ : Stmt := inClass (top 57) 19
abbrev s_Meter___getitem__ : Stmt := inClass (top 57) 20
abbrev s__law_pen : Stmt := top 59
abbrev s__law_draw : Stmt := top 60
abbrev s__law_divisor : Stmt := top 61
abbrev s__law_agree : Stmt := top 62
abbrev s__law_size : Stmt := top 64
abbrev s__law_source : Stmt := top 65
abbrev s__law_length : Stmt := top 66
abbrev s__law_reading : Stmt := top 67
abbrev s__law_fields : Stmt := top 68
abbrev s__law_heard : Stmt := top 69
abbrev s__law_odd : Stmt := top 70
abbrev s__law_added : Stmt := top 71
abbrev s__law_stands : Stmt := top 72
abbrev s_law : Stmt := top 73
abbrev s_Contradiction___init__ : Stmt := inClass (top 15) 0
abbrev s_InvalidBound___init__ : Stmt := inClass (top 11) 0
abbrev s_InvalidCapacity___init__ : Stmt := inClass (top 6) 0
abbrev s_InvalidReading___init__ : Stmt := inClass (top 10) 0
abbrev s_NoReading___init__ : Stmt := inClass (top 21) 0
abbrev ck_0 (K : Hx.Fr) : Bool := decide (PySem.W.nsIn K mainGlobals "Meter" = some (some (.ref (Hx.gl K "Meter"))))
abbrev ck_1 (K : Hx.Fr) : Bool := decide (PySem.W.plainGet K (Hx.gl K "Meter") Str.empty = true)
abbrev ck_2 (K : Hx.Fr) : Bool := decide (PySem.W.hasDictIn K (Hx.gl K "Meter") = true)
abbrev ck_3 (K : Hx.Fr) : Bool := decide (PySem.W.plainOver K (Hx.gl K "Meter") = true)
abbrev ck_4 (K : Hx.Fr) : Bool := decide (PySem.W.findIn K (.ref (Hx.gl K "Meter")) "__setattr__" = some (some (.builtin "object.__setattr__")))
abbrev ck_5 (K : Hx.Fr) : Bool := decide (PySem.W.makesIn K (Hx.gl K "Meter") = true)
abbrev ck_6 (K : Hx.Fr) : Bool := decide (PySem.W.keepIn K (.ref (Hx.gl K "Meter")) = true)
abbrev ck_7 (K : Hx.Fr) : Bool := decide (PySem.W.selfFirst K (Hx.gl K "Meter") = true)
abbrev ck_8 (K : Hx.Fr) : Bool := decide (PySem.W.findIn K (.ref (Hx.gl K "Meter")) "earlier" = some none)
abbrev ck_9 (K : Hx.Fr) : Bool := decide (PySem.W.findIn K (.ref (Hx.gl K "Meter")) "edge" = some none)
abbrev ck_10 (K : Hx.Fr) : Bool := decide (PySem.W.findIn K (.ref (Hx.gl K "Meter")) "noted" = some none)
abbrev ck_11 (K : Hx.Fr) : Bool := decide (PySem.W.findIn K (.ref (Hx.gl K "Meter")) "__bool__" = some none)
abbrev ck_12 (K : Hx.Fr) : Bool := decide (PySem.W.nsIn K mainGlobals "AbsentError" = some (some (.ref (Hx.gl K "AbsentError"))))
abbrev ck_13 (K : Hx.Fr) : Bool := decide (PySem.W.nsIn K mainGlobals "Contradiction" = some (some (.ref (Hx.gl K "Contradiction"))))
abbrev ck_14 (K : Hx.Fr) : Bool := decide (PySem.W.nsIn K mainGlobals "DifferentModes" = some (some (.ref (Hx.gl K "DifferentModes"))))
abbrev ck_15 (K : Hx.Fr) : Bool := decide (PySem.W.nsIn K mainGlobals "EchoError" = some (some (.ref (Hx.gl K "EchoError"))))
abbrev ck_16 (K : Hx.Fr) : Bool := decide (PySem.W.nsIn K mainGlobals "Finished" = some (some (.ref (Hx.gl K "Finished"))))
abbrev ck_17 (K : Hx.Fr) : Bool := decide (PySem.W.nsIn K mainGlobals "InvalidAccount" = some (some (.ref (Hx.gl K "InvalidAccount"))))
abbrev ck_18 (K : Hx.Fr) : Bool := decide (PySem.W.nsIn K mainGlobals "InvalidBound" = some (some (.ref (Hx.gl K "InvalidBound"))))
abbrev ck_19 (K : Hx.Fr) : Bool := decide (PySem.W.nsIn K mainGlobals "InvalidCapacity" = some (some (.ref (Hx.gl K "InvalidCapacity"))))
abbrev ck_20 (K : Hx.Fr) : Bool := decide (PySem.W.nsIn K mainGlobals "InvalidMode" = some (some (.ref (Hx.gl K "InvalidMode"))))
abbrev ck_21 (K : Hx.Fr) : Bool := decide (PySem.W.nsIn K mainGlobals "InvalidNumber" = some (some (.ref (Hx.gl K "InvalidNumber"))))
abbrev ck_22 (K : Hx.Fr) : Bool := decide (PySem.W.nsIn K mainGlobals "InvalidProgram" = some (some (.ref (Hx.gl K "InvalidProgram"))))
abbrev ck_23 (K : Hx.Fr) : Bool := decide (PySem.W.nsIn K mainGlobals "InvalidReading" = some (some (.ref (Hx.gl K "InvalidReading"))))
abbrev ck_24 (K : Hx.Fr) : Bool := decide (PySem.W.nsIn K mainGlobals "InvalidRow" = some (some (.ref (Hx.gl K "InvalidRow"))))
abbrev ck_25 (K : Hx.Fr) : Bool := decide (PySem.W.nsIn K mainGlobals "InvalidTable" = some (some (.ref (Hx.gl K "InvalidTable"))))
abbrev ck_26 (K : Hx.Fr) : Bool := decide (PySem.W.nsIn K mainGlobals "InvalidText" = some (some (.ref (Hx.gl K "InvalidText"))))
abbrev ck_27 (K : Hx.Fr) : Bool := decide (PySem.W.nsIn K mainGlobals "Lossy" = some (some (.ref (Hx.gl K "Lossy"))))
abbrev ck_28 (K : Hx.Fr) : Bool := decide (PySem.W.nsIn K mainGlobals "NoName" = some (some (.ref (Hx.gl K "NoName"))))
abbrev ck_29 (K : Hx.Fr) : Bool := decide (PySem.W.nsIn K mainGlobals "NoPlace" = some (some (.ref (Hx.gl K "NoPlace"))))
abbrev ck_30 (K : Hx.Fr) : Bool := decide (PySem.W.nsIn K mainGlobals "NoPoint" = some (some (.ref (Hx.gl K "NoPoint"))))
abbrev ck_31 (K : Hx.Fr) : Bool := decide (PySem.W.nsIn K mainGlobals "NoReading" = some (some (.ref (Hx.gl K "NoReading"))))
abbrev ck_32 (K : Hx.Fr) : Bool := decide (PySem.W.nsIn K mainGlobals "NothingToUndo" = some (some (.ref (Hx.gl K "NothingToUndo"))))
abbrev ck_33 (K : Hx.Fr) : Bool := decide (PySem.W.nsIn K mainGlobals "SizeError" = some (some (.ref (Hx.gl K "SizeError"))))
abbrev ck_34 (K : Hx.Fr) : Bool := decide (PySem.W.nsIn K mainGlobals "UnknownCommand" = some (some (.ref (Hx.gl K "UnknownCommand"))))
abbrev ck_35 (K : Hx.Fr) : Bool := Hx.xcOk K (Hx.gl K "Contradiction") "ValueError.__new__"
abbrev ck_36 (K : Hx.Fr) : Bool := decide (PySem.W.excTail [.type "ValueError", .type "Exception", .type "BaseException", .type "object"] ((Hx.cdOf K (Hx.gl K "Contradiction")).mro.tail) = true)
abbrev ck_37 (K : Hx.Fr) : Bool := decide (PySem.W.findIn K (.ref (Hx.gl K "Contradiction")) "__setattr__" = some (some (.builtin "object.__setattr__")))
abbrev ck_38 (K : Hx.Fr) : Bool := decide (PySem.W.findIn K (.ref (Hx.gl K "Contradiction")) "__init__" = some (some (.ref (Hx.me K (Hx.gl K "Contradiction") "__init__"))))
abbrev ck_39 (K : Hx.Fr) : Bool := decide (PySem.W.typeIn K (.ref (Hx.me K (Hx.gl K "Contradiction") "__init__")) = some (.type "function"))
abbrev ck_40 (K : Hx.Fr) : Bool := decide (PySem.W.findIn K (.ref (Hx.gl K "Contradiction")) "first" = some none)
abbrev ck_41 (K : Hx.Fr) : Bool := decide (PySem.W.findIn K (.ref (Hx.gl K "Contradiction")) "second" = some none)
abbrev ck_42 (K : Hx.Fr) : Bool := Hx.xcOk K (Hx.gl K "InvalidBound") "ValueError.__new__"
abbrev ck_43 (K : Hx.Fr) : Bool := decide (PySem.W.excTail [.type "ValueError", .type "Exception", .type "BaseException", .type "object"] ((Hx.cdOf K (Hx.gl K "InvalidBound")).mro.tail) = true)
abbrev ck_44 (K : Hx.Fr) : Bool := decide (PySem.W.findIn K (.ref (Hx.gl K "InvalidBound")) "__setattr__" = some (some (.builtin "object.__setattr__")))
abbrev ck_45 (K : Hx.Fr) : Bool := decide (PySem.W.findIn K (.ref (Hx.gl K "InvalidBound")) "__init__" = some (some (.ref (Hx.me K (Hx.gl K "InvalidBound") "__init__"))))
abbrev ck_46 (K : Hx.Fr) : Bool := decide (PySem.W.typeIn K (.ref (Hx.me K (Hx.gl K "InvalidBound") "__init__")) = some (.type "function"))
abbrev ck_47 (K : Hx.Fr) : Bool := decide (PySem.W.findIn K (.ref (Hx.gl K "InvalidBound")) "value" = some none)
abbrev ck_48 (K : Hx.Fr) : Bool := Hx.xcOk K (Hx.gl K "InvalidCapacity") "ValueError.__new__"
abbrev ck_49 (K : Hx.Fr) : Bool := decide (PySem.W.excTail [.type "ValueError", .type "Exception", .type "BaseException", .type "object"] ((Hx.cdOf K (Hx.gl K "InvalidCapacity")).mro.tail) = true)
abbrev ck_50 (K : Hx.Fr) : Bool := decide (PySem.W.findIn K (.ref (Hx.gl K "InvalidCapacity")) "__setattr__" = some (some (.builtin "object.__setattr__")))
abbrev ck_51 (K : Hx.Fr) : Bool := decide (PySem.W.findIn K (.ref (Hx.gl K "InvalidCapacity")) "__init__" = some (some (.ref (Hx.me K (Hx.gl K "InvalidCapacity") "__init__"))))
abbrev ck_52 (K : Hx.Fr) : Bool := decide (PySem.W.typeIn K (.ref (Hx.me K (Hx.gl K "InvalidCapacity") "__init__")) = some (.type "function"))
abbrev ck_53 (K : Hx.Fr) : Bool := decide (PySem.W.findIn K (.ref (Hx.gl K "InvalidCapacity")) "value" = some none)
abbrev ck_54 (K : Hx.Fr) : Bool := Hx.xcOk K (Hx.gl K "InvalidReading") "ValueError.__new__"
abbrev ck_55 (K : Hx.Fr) : Bool := decide (PySem.W.excTail [.type "ValueError", .type "Exception", .type "BaseException", .type "object"] ((Hx.cdOf K (Hx.gl K "InvalidReading")).mro.tail) = true)
abbrev ck_56 (K : Hx.Fr) : Bool := decide (PySem.W.findIn K (.ref (Hx.gl K "InvalidReading")) "__setattr__" = some (some (.builtin "object.__setattr__")))
abbrev ck_57 (K : Hx.Fr) : Bool := decide (PySem.W.findIn K (.ref (Hx.gl K "InvalidReading")) "__init__" = some (some (.ref (Hx.me K (Hx.gl K "InvalidReading") "__init__"))))
abbrev ck_58 (K : Hx.Fr) : Bool := decide (PySem.W.typeIn K (.ref (Hx.me K (Hx.gl K "InvalidReading") "__init__")) = some (.type "function"))
abbrev ck_59 (K : Hx.Fr) : Bool := decide (PySem.W.findIn K (.ref (Hx.gl K "InvalidReading")) "value" = some none)
abbrev ck_60 (K : Hx.Fr) : Bool := Hx.xcOk K (Hx.gl K "NoReading") "LookupError.__new__"
abbrev ck_61 (K : Hx.Fr) : Bool := decide (PySem.W.excTail [.type "LookupError", .type "Exception", .type "BaseException", .type "object"] ((Hx.cdOf K (Hx.gl K "NoReading")).mro.tail) = true)
abbrev ck_62 (K : Hx.Fr) : Bool := decide (PySem.W.findIn K (.ref (Hx.gl K "NoReading")) "__setattr__" = some (some (.builtin "object.__setattr__")))
abbrev ck_63 (K : Hx.Fr) : Bool := decide (PySem.W.findIn K (.ref (Hx.gl K "NoReading")) "__init__" = some (some (.ref (Hx.me K (Hx.gl K "NoReading") "__init__"))))
abbrev ck_64 (K : Hx.Fr) : Bool := decide (PySem.W.typeIn K (.ref (Hx.me K (Hx.gl K "NoReading") "__init__")) = some (.type "function"))
abbrev ck_65 (K : Hx.Fr) : Bool := decide (PySem.W.findIn K (.ref (Hx.gl K "NoReading")) "asked" = some none)
abbrev ck_66 (K : Hx.Fr) : Bool := decide (PySem.W.subIn K (.ref (Hx.gl K "Contradiction")) (.type "BaseException") = some true)
abbrev ck_67 (K : Hx.Fr) : Bool := decide (PySem.W.subIn K (.ref (Hx.gl K "InvalidBound")) (.type "BaseException") = some true)
abbrev ck_68 (K : Hx.Fr) : Bool := decide (PySem.W.subIn K (.ref (Hx.gl K "InvalidCapacity")) (.type "BaseException") = some true)
abbrev ck_69 (K : Hx.Fr) : Bool := decide (PySem.W.subIn K (.ref (Hx.gl K "InvalidReading")) (.type "BaseException") = some true)
abbrev ck_70 (K : Hx.Fr) : Bool := decide (PySem.W.subIn K (.ref (Hx.gl K "NoReading")) (.type "BaseException") = some true)
abbrev ck_71 (K : Hx.Fr) : Bool := decide (PySem.W.subIn K (.ref (Hx.gl K "NothingToUndo")) (.type "BaseException") = some true)
abbrev ck_72 (K : Hx.Fr) : Bool := decide (PySem.W.typeIn K (.ref (Hx.gl K "Contradiction")) = some (.type "type"))
abbrev ck_73 (K : Hx.Fr) : Bool := decide (PySem.W.keepIn K (.ref (Hx.gl K "Contradiction")) = true)
abbrev ck_74 (K : Hx.Fr) : Bool := decide (PySem.W.typeIn K (.ref (Hx.gl K "InvalidBound")) = some (.type "type"))
abbrev ck_75 (K : Hx.Fr) : Bool := decide (PySem.W.keepIn K (.ref (Hx.gl K "InvalidBound")) = true)
abbrev ck_76 (K : Hx.Fr) : Bool := decide (PySem.W.typeIn K (.ref (Hx.gl K "InvalidCapacity")) = some (.type "type"))
abbrev ck_77 (K : Hx.Fr) : Bool := decide (PySem.W.keepIn K (.ref (Hx.gl K "InvalidCapacity")) = true)
abbrev ck_78 (K : Hx.Fr) : Bool := decide (PySem.W.typeIn K (.ref (Hx.gl K "InvalidReading")) = some (.type "type"))
abbrev ck_79 (K : Hx.Fr) : Bool := decide (PySem.W.keepIn K (.ref (Hx.gl K "InvalidReading")) = true)
abbrev ck_80 (K : Hx.Fr) : Bool := decide (PySem.W.typeIn K (.ref (Hx.gl K "NoReading")) = some (.type "type"))
abbrev ck_81 (K : Hx.Fr) : Bool := decide (PySem.W.keepIn K (.ref (Hx.gl K "NoReading")) = true)
abbrev ck_82 (K : Hx.Fr) : Bool := decide (PySem.W.specialIn K (.builtin "object.__class__") "__get__" = some (some (.builtin "getset_descriptor.__get__")))
abbrev ck_83 (K : Hx.Fr) : Bool := decide (PySem.W.takesIn K (.builtin "object.__class__") = some true)
abbrev ck_84 (K : Hx.Fr) : Bool := decide (PySem.W.subIn K (.ref (Hx.gl K "EchoError")) (.type "BaseException") = some true)
abbrev ck_85 (K : Hx.Fr) : Bool := decide (PySem.W.hasDictIn K (Hx.gl K "EchoError") = true)
abbrev ck_86 (K : Hx.Fr) : Bool := decide (PySem.W.typeIn K (.ref (Hx.gl K "EchoError")) = some (.type "type"))
abbrev ck_87 (K : Hx.Fr) : Bool := decide (PySem.W.subIn K (.ref (Hx.gl K "SizeError")) (.type "BaseException") = some true)
abbrev ck_88 (K : Hx.Fr) : Bool := decide (PySem.W.hasDictIn K (Hx.gl K "SizeError") = true)
abbrev ck_89 (K : Hx.Fr) : Bool := decide (PySem.W.typeIn K (.ref (Hx.gl K "SizeError")) = some (.type "type"))
abbrev ck_90 (K : Hx.Fr) : Bool := decide (PySem.W.subIn K (.ref (Hx.gl K "AbsentError")) (.type "BaseException") = some true)
abbrev ck_91 (K : Hx.Fr) : Bool := decide (PySem.W.hasDictIn K (Hx.gl K "AbsentError") = true)
abbrev ck_92 (K : Hx.Fr) : Bool := decide (PySem.W.typeIn K (.ref (Hx.gl K "AbsentError")) = some (.type "type"))
abbrev ck_93 (K : Hx.Fr) : Bool := decide (PySem.W.findIn K (.ref (Hx.gl K "InvalidCapacity")) "__getattribute__" = some (some (.builtin "BaseException.__getattribute__")))
abbrev ck_94 (K : Hx.Fr) : Bool := decide (PySem.W.findIn K (.ref (Hx.gl K "InvalidCapacity")) "__getattr__" = some none)
abbrev ck_95 (K : Hx.Fr) : Bool := decide (PySem.W.hasDictIn K (Hx.gl K "InvalidCapacity") = true)
abbrev ck_96 (K : Hx.Fr) : Bool := decide (PySem.W.findIn K (.ref (Hx.gl K "InvalidCapacity")) "__class__" = some (some (.builtin "object.__class__")))
abbrev ck_97 (K : Hx.Fr) : Bool := decide (PySem.W.mroIn K (Hx.gl K "InvalidCapacity") (.type "object") = some true)
abbrev ck_98 (K : Hx.Fr) : Bool := decide (PySem.W.subIn K (.ref (Hx.gl K "InvalidCapacity")) (.ref (Hx.gl K "EchoError")) = some true)
abbrev ck_99 (K : Hx.Fr) : Bool := decide (PySem.W.subIn K (.ref (Hx.gl K "InvalidCapacity")) (.ref (Hx.gl K "SizeError")) = some false)
abbrev ck_100 (K : Hx.Fr) : Bool := decide (PySem.W.subIn K (.ref (Hx.gl K "InvalidCapacity")) (.ref (Hx.gl K "AbsentError")) = some false)
abbrev ck_101 (K : Hx.Fr) : Bool := decide (PySem.W.kitOne K (.ref (Hx.gl K "InvalidCapacity")) (.ref (Hx.gl K "Contradiction")) = some false)
abbrev ck_102 (K : Hx.Fr) : Bool := decide (PySem.W.kitOne K (.ref (Hx.gl K "InvalidCapacity")) (.ref (Hx.gl K "DifferentModes")) = some false)
abbrev ck_103 (K : Hx.Fr) : Bool := decide (PySem.W.kitOne K (.ref (Hx.gl K "InvalidCapacity")) (.ref (Hx.gl K "Finished")) = some false)
abbrev ck_104 (K : Hx.Fr) : Bool := decide (PySem.W.kitOne K (.ref (Hx.gl K "InvalidCapacity")) (.ref (Hx.gl K "InvalidAccount")) = some false)
abbrev ck_105 (K : Hx.Fr) : Bool := decide (PySem.W.kitOne K (.ref (Hx.gl K "InvalidCapacity")) (.ref (Hx.gl K "InvalidBound")) = some false)
abbrev ck_106 (K : Hx.Fr) : Bool := decide (PySem.W.kitOne K (.ref (Hx.gl K "InvalidCapacity")) (.ref (Hx.gl K "InvalidCapacity")) = some true)
abbrev ck_107 (K : Hx.Fr) : Bool := decide (PySem.W.kitOne K (.ref (Hx.gl K "InvalidCapacity")) (.ref (Hx.gl K "InvalidMode")) = some false)
abbrev ck_108 (K : Hx.Fr) : Bool := decide (PySem.W.kitOne K (.ref (Hx.gl K "InvalidCapacity")) (.ref (Hx.gl K "InvalidNumber")) = some false)
abbrev ck_109 (K : Hx.Fr) : Bool := decide (PySem.W.kitOne K (.ref (Hx.gl K "InvalidCapacity")) (.ref (Hx.gl K "InvalidProgram")) = some false)
abbrev ck_110 (K : Hx.Fr) : Bool := decide (PySem.W.kitOne K (.ref (Hx.gl K "InvalidCapacity")) (.ref (Hx.gl K "InvalidReading")) = some false)
abbrev ck_111 (K : Hx.Fr) : Bool := decide (PySem.W.kitOne K (.ref (Hx.gl K "InvalidCapacity")) (.ref (Hx.gl K "InvalidRow")) = some false)
abbrev ck_112 (K : Hx.Fr) : Bool := decide (PySem.W.kitOne K (.ref (Hx.gl K "InvalidCapacity")) (.ref (Hx.gl K "InvalidTable")) = some false)
abbrev ck_113 (K : Hx.Fr) : Bool := decide (PySem.W.kitOne K (.ref (Hx.gl K "InvalidCapacity")) (.ref (Hx.gl K "InvalidText")) = some false)
abbrev ck_114 (K : Hx.Fr) : Bool := decide (PySem.W.kitOne K (.ref (Hx.gl K "InvalidCapacity")) (.type "LookupError") = some false)
abbrev ck_115 (K : Hx.Fr) : Bool := decide (PySem.W.kitOne K (.ref (Hx.gl K "InvalidCapacity")) (.ref (Hx.gl K "Lossy")) = some false)
abbrev ck_116 (K : Hx.Fr) : Bool := decide (PySem.W.kitOne K (.ref (Hx.gl K "InvalidCapacity")) (.ref (Hx.gl K "NoName")) = some false)
abbrev ck_117 (K : Hx.Fr) : Bool := decide (PySem.W.kitOne K (.ref (Hx.gl K "InvalidCapacity")) (.ref (Hx.gl K "NoPlace")) = some false)
abbrev ck_118 (K : Hx.Fr) : Bool := decide (PySem.W.kitOne K (.ref (Hx.gl K "InvalidCapacity")) (.ref (Hx.gl K "NoPoint")) = some false)
abbrev ck_119 (K : Hx.Fr) : Bool := decide (PySem.W.kitOne K (.ref (Hx.gl K "InvalidCapacity")) (.ref (Hx.gl K "NoReading")) = some false)
abbrev ck_120 (K : Hx.Fr) : Bool := decide (PySem.W.kitOne K (.ref (Hx.gl K "InvalidCapacity")) (.ref (Hx.gl K "NothingToUndo")) = some false)
abbrev ck_121 (K : Hx.Fr) : Bool := decide (PySem.W.kitOne K (.ref (Hx.gl K "InvalidCapacity")) (.ref (Hx.gl K "SizeError")) = some false)
abbrev ck_122 (K : Hx.Fr) : Bool := decide (PySem.W.kitOne K (.ref (Hx.gl K "InvalidCapacity")) (.ref (Hx.gl K "UnknownCommand")) = some false)
abbrev ck_123 (K : Hx.Fr) : Bool := decide (PySem.W.kitOne K (.ref (Hx.gl K "InvalidCapacity")) (.type "ValueError") = some true)
abbrev ck_124 (K : Hx.Fr) : Bool := decide (PySem.W.findIn K (.ref (Hx.gl K "InvalidCapacity")) "value" = some none)
abbrev ck_125 (K : Hx.Fr) : Bool := decide (PySem.W.findIn K (.ref (Hx.gl K "InvalidReading")) "__getattribute__" = some (some (.builtin "BaseException.__getattribute__")))
abbrev ck_126 (K : Hx.Fr) : Bool := decide (PySem.W.findIn K (.ref (Hx.gl K "InvalidReading")) "__getattr__" = some none)
abbrev ck_127 (K : Hx.Fr) : Bool := decide (PySem.W.hasDictIn K (Hx.gl K "InvalidReading") = true)
abbrev ck_128 (K : Hx.Fr) : Bool := decide (PySem.W.findIn K (.ref (Hx.gl K "InvalidReading")) "__class__" = some (some (.builtin "object.__class__")))
abbrev ck_129 (K : Hx.Fr) : Bool := decide (PySem.W.mroIn K (Hx.gl K "InvalidReading") (.type "object") = some true)
abbrev ck_130 (K : Hx.Fr) : Bool := decide (PySem.W.subIn K (.ref (Hx.gl K "InvalidReading")) (.ref (Hx.gl K "EchoError")) = some true)
abbrev ck_131 (K : Hx.Fr) : Bool := decide (PySem.W.subIn K (.ref (Hx.gl K "InvalidReading")) (.ref (Hx.gl K "SizeError")) = some false)
abbrev ck_132 (K : Hx.Fr) : Bool := decide (PySem.W.subIn K (.ref (Hx.gl K "InvalidReading")) (.ref (Hx.gl K "AbsentError")) = some false)
abbrev ck_133 (K : Hx.Fr) : Bool := decide (PySem.W.kitOne K (.ref (Hx.gl K "InvalidReading")) (.ref (Hx.gl K "Contradiction")) = some false)
abbrev ck_134 (K : Hx.Fr) : Bool := decide (PySem.W.kitOne K (.ref (Hx.gl K "InvalidReading")) (.ref (Hx.gl K "DifferentModes")) = some false)
abbrev ck_135 (K : Hx.Fr) : Bool := decide (PySem.W.kitOne K (.ref (Hx.gl K "InvalidReading")) (.ref (Hx.gl K "Finished")) = some false)
abbrev ck_136 (K : Hx.Fr) : Bool := decide (PySem.W.kitOne K (.ref (Hx.gl K "InvalidReading")) (.ref (Hx.gl K "InvalidAccount")) = some false)
abbrev ck_137 (K : Hx.Fr) : Bool := decide (PySem.W.kitOne K (.ref (Hx.gl K "InvalidReading")) (.ref (Hx.gl K "InvalidBound")) = some false)
abbrev ck_138 (K : Hx.Fr) : Bool := decide (PySem.W.kitOne K (.ref (Hx.gl K "InvalidReading")) (.ref (Hx.gl K "InvalidCapacity")) = some false)
abbrev ck_139 (K : Hx.Fr) : Bool := decide (PySem.W.kitOne K (.ref (Hx.gl K "InvalidReading")) (.ref (Hx.gl K "InvalidMode")) = some false)
abbrev ck_140 (K : Hx.Fr) : Bool := decide (PySem.W.kitOne K (.ref (Hx.gl K "InvalidReading")) (.ref (Hx.gl K "InvalidNumber")) = some false)
abbrev ck_141 (K : Hx.Fr) : Bool := decide (PySem.W.kitOne K (.ref (Hx.gl K "InvalidReading")) (.ref (Hx.gl K "InvalidProgram")) = some false)
abbrev ck_142 (K : Hx.Fr) : Bool := decide (PySem.W.kitOne K (.ref (Hx.gl K "InvalidReading")) (.ref (Hx.gl K "InvalidReading")) = some true)
abbrev ck_143 (K : Hx.Fr) : Bool := decide (PySem.W.kitOne K (.ref (Hx.gl K "InvalidReading")) (.ref (Hx.gl K "InvalidRow")) = some false)
abbrev ck_144 (K : Hx.Fr) : Bool := decide (PySem.W.kitOne K (.ref (Hx.gl K "InvalidReading")) (.ref (Hx.gl K "InvalidTable")) = some false)
abbrev ck_145 (K : Hx.Fr) : Bool := decide (PySem.W.kitOne K (.ref (Hx.gl K "InvalidReading")) (.ref (Hx.gl K "InvalidText")) = some false)
abbrev ck_146 (K : Hx.Fr) : Bool := decide (PySem.W.kitOne K (.ref (Hx.gl K "InvalidReading")) (.type "LookupError") = some false)
abbrev ck_147 (K : Hx.Fr) : Bool := decide (PySem.W.kitOne K (.ref (Hx.gl K "InvalidReading")) (.ref (Hx.gl K "Lossy")) = some false)
abbrev ck_148 (K : Hx.Fr) : Bool := decide (PySem.W.kitOne K (.ref (Hx.gl K "InvalidReading")) (.ref (Hx.gl K "NoName")) = some false)
abbrev ck_149 (K : Hx.Fr) : Bool := decide (PySem.W.kitOne K (.ref (Hx.gl K "InvalidReading")) (.ref (Hx.gl K "NoPlace")) = some false)
abbrev ck_150 (K : Hx.Fr) : Bool := decide (PySem.W.kitOne K (.ref (Hx.gl K "InvalidReading")) (.ref (Hx.gl K "NoPoint")) = some false)
abbrev ck_151 (K : Hx.Fr) : Bool := decide (PySem.W.kitOne K (.ref (Hx.gl K "InvalidReading")) (.ref (Hx.gl K "NoReading")) = some false)
abbrev ck_152 (K : Hx.Fr) : Bool := decide (PySem.W.kitOne K (.ref (Hx.gl K "InvalidReading")) (.ref (Hx.gl K "NothingToUndo")) = some false)
abbrev ck_153 (K : Hx.Fr) : Bool := decide (PySem.W.kitOne K (.ref (Hx.gl K "InvalidReading")) (.ref (Hx.gl K "SizeError")) = some false)
abbrev ck_154 (K : Hx.Fr) : Bool := decide (PySem.W.kitOne K (.ref (Hx.gl K "InvalidReading")) (.ref (Hx.gl K "UnknownCommand")) = some false)
abbrev ck_155 (K : Hx.Fr) : Bool := decide (PySem.W.kitOne K (.ref (Hx.gl K "InvalidReading")) (.type "ValueError") = some true)
abbrev ck_156 (K : Hx.Fr) : Bool := decide (PySem.W.findIn K (.ref (Hx.gl K "InvalidReading")) "value" = some none)
abbrev ck_157 (K : Hx.Fr) : Bool := decide (PySem.W.findIn K (.ref (Hx.gl K "InvalidBound")) "__getattribute__" = some (some (.builtin "BaseException.__getattribute__")))
abbrev ck_158 (K : Hx.Fr) : Bool := decide (PySem.W.findIn K (.ref (Hx.gl K "InvalidBound")) "__getattr__" = some none)
abbrev ck_159 (K : Hx.Fr) : Bool := decide (PySem.W.hasDictIn K (Hx.gl K "InvalidBound") = true)
abbrev ck_160 (K : Hx.Fr) : Bool := decide (PySem.W.findIn K (.ref (Hx.gl K "InvalidBound")) "__class__" = some (some (.builtin "object.__class__")))
abbrev ck_161 (K : Hx.Fr) : Bool := decide (PySem.W.mroIn K (Hx.gl K "InvalidBound") (.type "object") = some true)
abbrev ck_162 (K : Hx.Fr) : Bool := decide (PySem.W.subIn K (.ref (Hx.gl K "InvalidBound")) (.ref (Hx.gl K "EchoError")) = some true)
abbrev ck_163 (K : Hx.Fr) : Bool := decide (PySem.W.subIn K (.ref (Hx.gl K "InvalidBound")) (.ref (Hx.gl K "SizeError")) = some false)
abbrev ck_164 (K : Hx.Fr) : Bool := decide (PySem.W.subIn K (.ref (Hx.gl K "InvalidBound")) (.ref (Hx.gl K "AbsentError")) = some false)
abbrev ck_165 (K : Hx.Fr) : Bool := decide (PySem.W.kitOne K (.ref (Hx.gl K "InvalidBound")) (.ref (Hx.gl K "Contradiction")) = some false)
abbrev ck_166 (K : Hx.Fr) : Bool := decide (PySem.W.kitOne K (.ref (Hx.gl K "InvalidBound")) (.ref (Hx.gl K "DifferentModes")) = some false)
abbrev ck_167 (K : Hx.Fr) : Bool := decide (PySem.W.kitOne K (.ref (Hx.gl K "InvalidBound")) (.ref (Hx.gl K "Finished")) = some false)
abbrev ck_168 (K : Hx.Fr) : Bool := decide (PySem.W.kitOne K (.ref (Hx.gl K "InvalidBound")) (.ref (Hx.gl K "InvalidAccount")) = some false)
abbrev ck_169 (K : Hx.Fr) : Bool := decide (PySem.W.kitOne K (.ref (Hx.gl K "InvalidBound")) (.ref (Hx.gl K "InvalidBound")) = some true)
abbrev ck_170 (K : Hx.Fr) : Bool := decide (PySem.W.kitOne K (.ref (Hx.gl K "InvalidBound")) (.ref (Hx.gl K "InvalidCapacity")) = some false)
abbrev ck_171 (K : Hx.Fr) : Bool := decide (PySem.W.kitOne K (.ref (Hx.gl K "InvalidBound")) (.ref (Hx.gl K "InvalidMode")) = some false)
abbrev ck_172 (K : Hx.Fr) : Bool := decide (PySem.W.kitOne K (.ref (Hx.gl K "InvalidBound")) (.ref (Hx.gl K "InvalidNumber")) = some false)
abbrev ck_173 (K : Hx.Fr) : Bool := decide (PySem.W.kitOne K (.ref (Hx.gl K "InvalidBound")) (.ref (Hx.gl K "InvalidProgram")) = some false)
abbrev ck_174 (K : Hx.Fr) : Bool := decide (PySem.W.kitOne K (.ref (Hx.gl K "InvalidBound")) (.ref (Hx.gl K "InvalidReading")) = some false)
abbrev ck_175 (K : Hx.Fr) : Bool := decide (PySem.W.kitOne K (.ref (Hx.gl K "InvalidBound")) (.ref (Hx.gl K "InvalidRow")) = some false)
abbrev ck_176 (K : Hx.Fr) : Bool := decide (PySem.W.kitOne K (.ref (Hx.gl K "InvalidBound")) (.ref (Hx.gl K "InvalidTable")) = some false)
abbrev ck_177 (K : Hx.Fr) : Bool := decide (PySem.W.kitOne K (.ref (Hx.gl K "InvalidBound")) (.ref (Hx.gl K "InvalidText")) = some false)
abbrev ck_178 (K : Hx.Fr) : Bool := decide (PySem.W.kitOne K (.ref (Hx.gl K "InvalidBound")) (.type "LookupError") = some false)
abbrev ck_179 (K : Hx.Fr) : Bool := decide (PySem.W.kitOne K (.ref (Hx.gl K "InvalidBound")) (.ref (Hx.gl K "Lossy")) = some false)
abbrev ck_180 (K : Hx.Fr) : Bool := decide (PySem.W.kitOne K (.ref (Hx.gl K "InvalidBound")) (.ref (Hx.gl K "NoName")) = some false)
abbrev ck_181 (K : Hx.Fr) : Bool := decide (PySem.W.kitOne K (.ref (Hx.gl K "InvalidBound")) (.ref (Hx.gl K "NoPlace")) = some false)
abbrev ck_182 (K : Hx.Fr) : Bool := decide (PySem.W.kitOne K (.ref (Hx.gl K "InvalidBound")) (.ref (Hx.gl K "NoPoint")) = some false)
abbrev ck_183 (K : Hx.Fr) : Bool := decide (PySem.W.kitOne K (.ref (Hx.gl K "InvalidBound")) (.ref (Hx.gl K "NoReading")) = some false)
abbrev ck_184 (K : Hx.Fr) : Bool := decide (PySem.W.kitOne K (.ref (Hx.gl K "InvalidBound")) (.ref (Hx.gl K "NothingToUndo")) = some false)
abbrev ck_185 (K : Hx.Fr) : Bool := decide (PySem.W.kitOne K (.ref (Hx.gl K "InvalidBound")) (.ref (Hx.gl K "SizeError")) = some false)
abbrev ck_186 (K : Hx.Fr) : Bool := decide (PySem.W.kitOne K (.ref (Hx.gl K "InvalidBound")) (.ref (Hx.gl K "UnknownCommand")) = some false)
abbrev ck_187 (K : Hx.Fr) : Bool := decide (PySem.W.kitOne K (.ref (Hx.gl K "InvalidBound")) (.type "ValueError") = some true)
abbrev ck_188 (K : Hx.Fr) : Bool := decide (PySem.W.findIn K (.ref (Hx.gl K "InvalidBound")) "value" = some none)
abbrev ck_189 (K : Hx.Fr) : Bool := decide (PySem.W.findIn K (.ref (Hx.gl K "Contradiction")) "__getattribute__" = some (some (.builtin "BaseException.__getattribute__")))
abbrev ck_190 (K : Hx.Fr) : Bool := decide (PySem.W.findIn K (.ref (Hx.gl K "Contradiction")) "__getattr__" = some none)
abbrev ck_191 (K : Hx.Fr) : Bool := decide (PySem.W.hasDictIn K (Hx.gl K "Contradiction") = true)
abbrev ck_192 (K : Hx.Fr) : Bool := decide (PySem.W.findIn K (.ref (Hx.gl K "Contradiction")) "__class__" = some (some (.builtin "object.__class__")))
abbrev ck_193 (K : Hx.Fr) : Bool := decide (PySem.W.mroIn K (Hx.gl K "Contradiction") (.type "object") = some true)
abbrev ck_194 (K : Hx.Fr) : Bool := decide (PySem.W.subIn K (.ref (Hx.gl K "Contradiction")) (.ref (Hx.gl K "EchoError")) = some true)
abbrev ck_195 (K : Hx.Fr) : Bool := decide (PySem.W.subIn K (.ref (Hx.gl K "Contradiction")) (.ref (Hx.gl K "SizeError")) = some false)
abbrev ck_196 (K : Hx.Fr) : Bool := decide (PySem.W.subIn K (.ref (Hx.gl K "Contradiction")) (.ref (Hx.gl K "AbsentError")) = some false)
abbrev ck_197 (K : Hx.Fr) : Bool := decide (PySem.W.kitOne K (.ref (Hx.gl K "Contradiction")) (.ref (Hx.gl K "Contradiction")) = some true)
abbrev ck_198 (K : Hx.Fr) : Bool := decide (PySem.W.kitOne K (.ref (Hx.gl K "Contradiction")) (.ref (Hx.gl K "DifferentModes")) = some false)
abbrev ck_199 (K : Hx.Fr) : Bool := decide (PySem.W.kitOne K (.ref (Hx.gl K "Contradiction")) (.ref (Hx.gl K "Finished")) = some false)
abbrev ck_200 (K : Hx.Fr) : Bool := decide (PySem.W.kitOne K (.ref (Hx.gl K "Contradiction")) (.ref (Hx.gl K "InvalidAccount")) = some false)
abbrev ck_201 (K : Hx.Fr) : Bool := decide (PySem.W.kitOne K (.ref (Hx.gl K "Contradiction")) (.ref (Hx.gl K "InvalidBound")) = some false)
abbrev ck_202 (K : Hx.Fr) : Bool := decide (PySem.W.kitOne K (.ref (Hx.gl K "Contradiction")) (.ref (Hx.gl K "InvalidCapacity")) = some false)
abbrev ck_203 (K : Hx.Fr) : Bool := decide (PySem.W.kitOne K (.ref (Hx.gl K "Contradiction")) (.ref (Hx.gl K "InvalidMode")) = some false)
abbrev ck_204 (K : Hx.Fr) : Bool := decide (PySem.W.kitOne K (.ref (Hx.gl K "Contradiction")) (.ref (Hx.gl K "InvalidNumber")) = some false)
abbrev ck_205 (K : Hx.Fr) : Bool := decide (PySem.W.kitOne K (.ref (Hx.gl K "Contradiction")) (.ref (Hx.gl K "InvalidProgram")) = some false)
abbrev ck_206 (K : Hx.Fr) : Bool := decide (PySem.W.kitOne K (.ref (Hx.gl K "Contradiction")) (.ref (Hx.gl K "InvalidReading")) = some false)
abbrev ck_207 (K : Hx.Fr) : Bool := decide (PySem.W.kitOne K (.ref (Hx.gl K "Contradiction")) (.ref (Hx.gl K "InvalidRow")) = some false)
abbrev ck_208 (K : Hx.Fr) : Bool := decide (PySem.W.kitOne K (.ref (Hx.gl K "Contradiction")) (.ref (Hx.gl K "InvalidTable")) = some false)
abbrev ck_209 (K : Hx.Fr) : Bool := decide (PySem.W.kitOne K (.ref (Hx.gl K "Contradiction")) (.ref (Hx.gl K "InvalidText")) = some false)
abbrev ck_210 (K : Hx.Fr) : Bool := decide (PySem.W.kitOne K (.ref (Hx.gl K "Contradiction")) (.type "LookupError") = some false)
abbrev ck_211 (K : Hx.Fr) : Bool := decide (PySem.W.kitOne K (.ref (Hx.gl K "Contradiction")) (.ref (Hx.gl K "Lossy")) = some false)
abbrev ck_212 (K : Hx.Fr) : Bool := decide (PySem.W.kitOne K (.ref (Hx.gl K "Contradiction")) (.ref (Hx.gl K "NoName")) = some false)
abbrev ck_213 (K : Hx.Fr) : Bool := decide (PySem.W.kitOne K (.ref (Hx.gl K "Contradiction")) (.ref (Hx.gl K "NoPlace")) = some false)
abbrev ck_214 (K : Hx.Fr) : Bool := decide (PySem.W.kitOne K (.ref (Hx.gl K "Contradiction")) (.ref (Hx.gl K "NoPoint")) = some false)
abbrev ck_215 (K : Hx.Fr) : Bool := decide (PySem.W.kitOne K (.ref (Hx.gl K "Contradiction")) (.ref (Hx.gl K "NoReading")) = some false)
abbrev ck_216 (K : Hx.Fr) : Bool := decide (PySem.W.kitOne K (.ref (Hx.gl K "Contradiction")) (.ref (Hx.gl K "NothingToUndo")) = some false)
abbrev ck_217 (K : Hx.Fr) : Bool := decide (PySem.W.kitOne K (.ref (Hx.gl K "Contradiction")) (.ref (Hx.gl K "SizeError")) = some false)
abbrev ck_218 (K : Hx.Fr) : Bool := decide (PySem.W.kitOne K (.ref (Hx.gl K "Contradiction")) (.ref (Hx.gl K "UnknownCommand")) = some false)
abbrev ck_219 (K : Hx.Fr) : Bool := decide (PySem.W.kitOne K (.ref (Hx.gl K "Contradiction")) (.type "ValueError") = some true)
abbrev ck_220 (K : Hx.Fr) : Bool := decide (PySem.W.findIn K (.ref (Hx.gl K "Contradiction")) "first" = some none)
abbrev ck_221 (K : Hx.Fr) : Bool := decide (PySem.W.findIn K (.ref (Hx.gl K "Contradiction")) "second" = some none)
abbrev ck_222 (K : Hx.Fr) : Bool := decide (PySem.W.findIn K (.ref (Hx.gl K "NoReading")) "__getattribute__" = some (some (.builtin "BaseException.__getattribute__")))
abbrev ck_223 (K : Hx.Fr) : Bool := decide (PySem.W.findIn K (.ref (Hx.gl K "NoReading")) "__getattr__" = some none)
abbrev ck_224 (K : Hx.Fr) : Bool := decide (PySem.W.hasDictIn K (Hx.gl K "NoReading") = true)
abbrev ck_225 (K : Hx.Fr) : Bool := decide (PySem.W.findIn K (.ref (Hx.gl K "NoReading")) "__class__" = some (some (.builtin "object.__class__")))
abbrev ck_226 (K : Hx.Fr) : Bool := decide (PySem.W.mroIn K (Hx.gl K "NoReading") (.type "object") = some true)
abbrev ck_227 (K : Hx.Fr) : Bool := decide (PySem.W.subIn K (.ref (Hx.gl K "NoReading")) (.ref (Hx.gl K "EchoError")) = some false)
abbrev ck_228 (K : Hx.Fr) : Bool := decide (PySem.W.subIn K (.ref (Hx.gl K "NoReading")) (.ref (Hx.gl K "SizeError")) = some false)
abbrev ck_229 (K : Hx.Fr) : Bool := decide (PySem.W.subIn K (.ref (Hx.gl K "NoReading")) (.ref (Hx.gl K "AbsentError")) = some true)
abbrev ck_230 (K : Hx.Fr) : Bool := decide (PySem.W.kitOne K (.ref (Hx.gl K "NoReading")) (.ref (Hx.gl K "Contradiction")) = some false)
abbrev ck_231 (K : Hx.Fr) : Bool := decide (PySem.W.kitOne K (.ref (Hx.gl K "NoReading")) (.ref (Hx.gl K "DifferentModes")) = some false)
abbrev ck_232 (K : Hx.Fr) : Bool := decide (PySem.W.kitOne K (.ref (Hx.gl K "NoReading")) (.ref (Hx.gl K "Finished")) = some false)
abbrev ck_233 (K : Hx.Fr) : Bool := decide (PySem.W.kitOne K (.ref (Hx.gl K "NoReading")) (.ref (Hx.gl K "InvalidAccount")) = some false)
abbrev ck_234 (K : Hx.Fr) : Bool := decide (PySem.W.kitOne K (.ref (Hx.gl K "NoReading")) (.ref (Hx.gl K "InvalidBound")) = some false)
abbrev ck_235 (K : Hx.Fr) : Bool := decide (PySem.W.kitOne K (.ref (Hx.gl K "NoReading")) (.ref (Hx.gl K "InvalidCapacity")) = some false)
abbrev ck_236 (K : Hx.Fr) : Bool := decide (PySem.W.kitOne K (.ref (Hx.gl K "NoReading")) (.ref (Hx.gl K "InvalidMode")) = some false)
abbrev ck_237 (K : Hx.Fr) : Bool := decide (PySem.W.kitOne K (.ref (Hx.gl K "NoReading")) (.ref (Hx.gl K "InvalidNumber")) = some false)
abbrev ck_238 (K : Hx.Fr) : Bool := decide (PySem.W.kitOne K (.ref (Hx.gl K "NoReading")) (.ref (Hx.gl K "InvalidProgram")) = some false)
abbrev ck_239 (K : Hx.Fr) : Bool := decide (PySem.W.kitOne K (.ref (Hx.gl K "NoReading")) (.ref (Hx.gl K "InvalidReading")) = some false)
abbrev ck_240 (K : Hx.Fr) : Bool := decide (PySem.W.kitOne K (.ref (Hx.gl K "NoReading")) (.ref (Hx.gl K "InvalidRow")) = some false)
abbrev ck_241 (K : Hx.Fr) : Bool := decide (PySem.W.kitOne K (.ref (Hx.gl K "NoReading")) (.ref (Hx.gl K "InvalidTable")) = some false)
abbrev ck_242 (K : Hx.Fr) : Bool := decide (PySem.W.kitOne K (.ref (Hx.gl K "NoReading")) (.ref (Hx.gl K "InvalidText")) = some false)
abbrev ck_243 (K : Hx.Fr) : Bool := decide (PySem.W.kitOne K (.ref (Hx.gl K "NoReading")) (.type "LookupError") = some true)
abbrev ck_244 (K : Hx.Fr) : Bool := decide (PySem.W.kitOne K (.ref (Hx.gl K "NoReading")) (.ref (Hx.gl K "Lossy")) = some false)
abbrev ck_245 (K : Hx.Fr) : Bool := decide (PySem.W.kitOne K (.ref (Hx.gl K "NoReading")) (.ref (Hx.gl K "NoName")) = some false)
abbrev ck_246 (K : Hx.Fr) : Bool := decide (PySem.W.kitOne K (.ref (Hx.gl K "NoReading")) (.ref (Hx.gl K "NoPlace")) = some false)
abbrev ck_247 (K : Hx.Fr) : Bool := decide (PySem.W.kitOne K (.ref (Hx.gl K "NoReading")) (.ref (Hx.gl K "NoPoint")) = some false)
abbrev ck_248 (K : Hx.Fr) : Bool := decide (PySem.W.kitOne K (.ref (Hx.gl K "NoReading")) (.ref (Hx.gl K "NoReading")) = some true)
abbrev ck_249 (K : Hx.Fr) : Bool := decide (PySem.W.kitOne K (.ref (Hx.gl K "NoReading")) (.ref (Hx.gl K "NothingToUndo")) = some false)
abbrev ck_250 (K : Hx.Fr) : Bool := decide (PySem.W.kitOne K (.ref (Hx.gl K "NoReading")) (.ref (Hx.gl K "SizeError")) = some false)
abbrev ck_251 (K : Hx.Fr) : Bool := decide (PySem.W.kitOne K (.ref (Hx.gl K "NoReading")) (.ref (Hx.gl K "UnknownCommand")) = some false)
abbrev ck_252 (K : Hx.Fr) : Bool := decide (PySem.W.kitOne K (.ref (Hx.gl K "NoReading")) (.type "ValueError") = some false)
abbrev ck_253 (K : Hx.Fr) : Bool := decide (PySem.W.findIn K (.ref (Hx.gl K "NoReading")) "asked" = some none)
abbrev ck_254 (K : Hx.Fr) : Bool := decide (PySem.W.findIn K (.ref (Hx.gl K "NothingToUndo")) "__getattribute__" = some (some (.builtin "BaseException.__getattribute__")))
abbrev ck_255 (K : Hx.Fr) : Bool := decide (PySem.W.findIn K (.ref (Hx.gl K "NothingToUndo")) "__getattr__" = some none)
abbrev ck_256 (K : Hx.Fr) : Bool := decide (PySem.W.hasDictIn K (Hx.gl K "NothingToUndo") = true)
abbrev ck_257 (K : Hx.Fr) : Bool := decide (PySem.W.findIn K (.ref (Hx.gl K "NothingToUndo")) "__class__" = some (some (.builtin "object.__class__")))
abbrev ck_258 (K : Hx.Fr) : Bool := decide (PySem.W.mroIn K (Hx.gl K "NothingToUndo") (.type "object") = some true)
abbrev ck_259 (K : Hx.Fr) : Bool := decide (PySem.W.subIn K (.ref (Hx.gl K "NothingToUndo")) (.ref (Hx.gl K "EchoError")) = some false)
abbrev ck_260 (K : Hx.Fr) : Bool := decide (PySem.W.subIn K (.ref (Hx.gl K "NothingToUndo")) (.ref (Hx.gl K "SizeError")) = some false)
abbrev ck_261 (K : Hx.Fr) : Bool := decide (PySem.W.subIn K (.ref (Hx.gl K "NothingToUndo")) (.ref (Hx.gl K "AbsentError")) = some true)
abbrev ck_262 (K : Hx.Fr) : Bool := decide (PySem.W.kitOne K (.ref (Hx.gl K "NothingToUndo")) (.ref (Hx.gl K "Contradiction")) = some false)
abbrev ck_263 (K : Hx.Fr) : Bool := decide (PySem.W.kitOne K (.ref (Hx.gl K "NothingToUndo")) (.ref (Hx.gl K "DifferentModes")) = some false)
abbrev ck_264 (K : Hx.Fr) : Bool := decide (PySem.W.kitOne K (.ref (Hx.gl K "NothingToUndo")) (.ref (Hx.gl K "Finished")) = some false)
abbrev ck_265 (K : Hx.Fr) : Bool := decide (PySem.W.kitOne K (.ref (Hx.gl K "NothingToUndo")) (.ref (Hx.gl K "InvalidAccount")) = some false)
abbrev ck_266 (K : Hx.Fr) : Bool := decide (PySem.W.kitOne K (.ref (Hx.gl K "NothingToUndo")) (.ref (Hx.gl K "InvalidBound")) = some false)
abbrev ck_267 (K : Hx.Fr) : Bool := decide (PySem.W.kitOne K (.ref (Hx.gl K "NothingToUndo")) (.ref (Hx.gl K "InvalidCapacity")) = some false)
abbrev ck_268 (K : Hx.Fr) : Bool := decide (PySem.W.kitOne K (.ref (Hx.gl K "NothingToUndo")) (.ref (Hx.gl K "InvalidMode")) = some false)
abbrev ck_269 (K : Hx.Fr) : Bool := decide (PySem.W.kitOne K (.ref (Hx.gl K "NothingToUndo")) (.ref (Hx.gl K "InvalidNumber")) = some false)
abbrev ck_270 (K : Hx.Fr) : Bool := decide (PySem.W.kitOne K (.ref (Hx.gl K "NothingToUndo")) (.ref (Hx.gl K "InvalidProgram")) = some false)
abbrev ck_271 (K : Hx.Fr) : Bool := decide (PySem.W.kitOne K (.ref (Hx.gl K "NothingToUndo")) (.ref (Hx.gl K "InvalidReading")) = some false)
abbrev ck_272 (K : Hx.Fr) : Bool := decide (PySem.W.kitOne K (.ref (Hx.gl K "NothingToUndo")) (.ref (Hx.gl K "InvalidRow")) = some false)
abbrev ck_273 (K : Hx.Fr) : Bool := decide (PySem.W.kitOne K (.ref (Hx.gl K "NothingToUndo")) (.ref (Hx.gl K "InvalidTable")) = some false)
abbrev ck_274 (K : Hx.Fr) : Bool := decide (PySem.W.kitOne K (.ref (Hx.gl K "NothingToUndo")) (.ref (Hx.gl K "InvalidText")) = some false)
abbrev ck_275 (K : Hx.Fr) : Bool := decide (PySem.W.kitOne K (.ref (Hx.gl K "NothingToUndo")) (.type "LookupError") = some true)
abbrev ck_276 (K : Hx.Fr) : Bool := decide (PySem.W.kitOne K (.ref (Hx.gl K "NothingToUndo")) (.ref (Hx.gl K "Lossy")) = some false)
abbrev ck_277 (K : Hx.Fr) : Bool := decide (PySem.W.kitOne K (.ref (Hx.gl K "NothingToUndo")) (.ref (Hx.gl K "NoName")) = some false)
abbrev ck_278 (K : Hx.Fr) : Bool := decide (PySem.W.kitOne K (.ref (Hx.gl K "NothingToUndo")) (.ref (Hx.gl K "NoPlace")) = some false)
abbrev ck_279 (K : Hx.Fr) : Bool := decide (PySem.W.kitOne K (.ref (Hx.gl K "NothingToUndo")) (.ref (Hx.gl K "NoPoint")) = some false)
abbrev ck_280 (K : Hx.Fr) : Bool := decide (PySem.W.kitOne K (.ref (Hx.gl K "NothingToUndo")) (.ref (Hx.gl K "NoReading")) = some false)
abbrev ck_281 (K : Hx.Fr) : Bool := decide (PySem.W.kitOne K (.ref (Hx.gl K "NothingToUndo")) (.ref (Hx.gl K "NothingToUndo")) = some true)
abbrev ck_282 (K : Hx.Fr) : Bool := decide (PySem.W.kitOne K (.ref (Hx.gl K "NothingToUndo")) (.ref (Hx.gl K "SizeError")) = some false)
abbrev ck_283 (K : Hx.Fr) : Bool := decide (PySem.W.kitOne K (.ref (Hx.gl K "NothingToUndo")) (.ref (Hx.gl K "UnknownCommand")) = some false)
abbrev ck_284 (K : Hx.Fr) : Bool := decide (PySem.W.kitOne K (.ref (Hx.gl K "NothingToUndo")) (.type "ValueError") = some false)
abbrev ck_285 (K : Hx.Fr) : Bool := decide (PySem.W.findIn K (.ref (Hx.gl K "NothingToUndo")) "count" = some none)
abbrev ck_286 (K : Hx.Fr) : Bool := decide (PySem.W.nsIn K mainGlobals "is_integer" = some (some (.ref (Hx.gl K "is_integer"))))
abbrev ck_287 (K : Hx.Fr) : Bool := decide (PySem.W.codeIn K (Hx.fv (·.code) K (Hx.gl K "is_integer")) "is_integer" = true)
abbrev ck_288 (K : Hx.Fr) : Bool := decide (PySem.W.keepIn K (.ref (Hx.gl K "is_integer")) = true)
abbrev ck_289 (K : Hx.Fr) : Bool := decide (PySem.W.nsIn K mainGlobals "is_between" = some (some (.ref (Hx.gl K "is_between"))))
abbrev ck_290 (K : Hx.Fr) : Bool := decide (PySem.W.codeIn K (Hx.fv (·.code) K (Hx.gl K "is_between")) "is_between" = true)
abbrev ck_291 (K : Hx.Fr) : Bool := decide (PySem.W.keepIn K (.ref (Hx.gl K "is_between")) = true)
abbrev ck_292 (K : Hx.Fr) : Bool := decide (PySem.W.nsIn K mainGlobals "common_divisor" = some (some (.ref (Hx.gl K "common_divisor"))))
abbrev ck_293 (K : Hx.Fr) : Bool := decide (PySem.W.codeIn K (Hx.fv (·.code) K (Hx.gl K "common_divisor")) "common_divisor" = true)
abbrev ck_294 (K : Hx.Fr) : Bool := decide (PySem.W.keepIn K (.ref (Hx.gl K "common_divisor")) = true)
abbrev ck_295 (K : Hx.Fr) : Bool := decide (PySem.W.nsIn K mainGlobals "modulus_of" = some (some (.ref (Hx.gl K "modulus_of"))))
abbrev ck_296 (K : Hx.Fr) : Bool := decide (PySem.W.codeIn K (Hx.fv (·.code) K (Hx.gl K "modulus_of")) "modulus_of" = true)
abbrev ck_297 (K : Hx.Fr) : Bool := decide (PySem.W.keepIn K (.ref (Hx.gl K "modulus_of")) = true)
abbrev ck_298 (K : Hx.Fr) : Bool := decide (PySem.W.nsIn K mainGlobals "shared" = some (some (.ref (Hx.gl K "shared"))))
abbrev ck_299 (K : Hx.Fr) : Bool := decide (PySem.W.codeIn K (Hx.fv (·.code) K (Hx.gl K "shared")) "shared" = true)
abbrev ck_300 (K : Hx.Fr) : Bool := decide (PySem.W.keepIn K (.ref (Hx.gl K "shared")) = true)
abbrev ck_301 (K : Hx.Fr) : Bool := decide (PySem.W.nsIn K mainGlobals "do_agree" = some (some (.ref (Hx.gl K "do_agree"))))
abbrev ck_302 (K : Hx.Fr) : Bool := decide (PySem.W.codeIn K (Hx.fv (·.code) K (Hx.gl K "do_agree")) "do_agree" = true)
abbrev ck_303 (K : Hx.Fr) : Bool := decide (PySem.W.keepIn K (.ref (Hx.gl K "do_agree")) = true)
abbrev ck_304 (K : Hx.Fr) : Bool := decide (PySem.W.nsIn K mainGlobals "need_capacity_meters" = some (some (.ref (Hx.gl K "need_capacity_meters"))))
abbrev ck_305 (K : Hx.Fr) : Bool := decide (PySem.W.codeIn K (Hx.fv (·.code) K (Hx.gl K "need_capacity_meters")) "need_capacity" = true)
abbrev ck_306 (K : Hx.Fr) : Bool := decide (PySem.W.keepIn K (.ref (Hx.gl K "need_capacity_meters")) = true)
abbrev ck_307 (K : Hx.Fr) : Bool := decide (PySem.W.nsIn K mainGlobals "need_bound" = some (some (.ref (Hx.gl K "need_bound"))))
abbrev ck_308 (K : Hx.Fr) : Bool := decide (PySem.W.codeIn K (Hx.fv (·.code) K (Hx.gl K "need_bound")) "need_bound" = true)
abbrev ck_309 (K : Hx.Fr) : Bool := decide (PySem.W.keepIn K (.ref (Hx.gl K "need_bound")) = true)
abbrev ck_310 (K : Hx.Fr) : Bool := decide (PySem.W.findIn K (.ref (Hx.gl K "Meter")) "__init__" = some (some (.ref (Hx.me K (Hx.gl K "Meter") "__init__"))))
abbrev ck_311 (K : Hx.Fr) : Bool := decide (PySem.W.isFn K (.ref (Hx.me K (Hx.gl K "Meter") "__init__")) = true)
abbrev ck_312 (K : Hx.Fr) : Bool := decide (PySem.W.fnIn K (Hx.me K (Hx.gl K "Meter") "__init__") = true)
abbrev ck_313 (K : Hx.Fr) : Bool := decide (Hx.kv K (Hx.me K (Hx.gl K "Meter") "__init__") = .ref (Hx.kd K (Hx.me K (Hx.gl K "Meter") "__init__")))
abbrev ck_314 (K : Hx.Fr) : Bool := decide (PySem.W.codeIn K (Hx.fv (·.code) K (Hx.me K (Hx.gl K "Meter") "__init__")) "Meter.__init__" = true)
abbrev ck_315 (K : Hx.Fr) : Bool := decide (PySem.W.keepIn K (.ref (Hx.me K (Hx.gl K "Meter") "__init__")) = true)
abbrev ck_316 (K : Hx.Fr) : Bool := decide (PySem.W.nsIn K (Hx.kd K (Hx.me K (Hx.gl K "Meter") "__init__")) "most" = some (some Value.none))
abbrev ck_317 (K : Hx.Fr) : Bool := decide (PySem.W.findIn K (.ref (Hx.gl K "Meter")) "readings" = some (some (.ref (Hx.me K (Hx.gl K "Meter") "readings"))))
abbrev ck_318 (K : Hx.Fr) : Bool := decide (PySem.W.specialIn K (.ref (Hx.me K (Hx.gl K "Meter") "readings")) "__get__" = some (some (.builtin "property.__get__")))
abbrev ck_319 (K : Hx.Fr) : Bool := decide (PySem.W.takesIn K (.ref (Hx.me K (Hx.gl K "Meter") "readings")) = some true)
abbrev ck_320 (K : Hx.Fr) : Bool := decide (PySem.W.recIn K (Hx.me K (Hx.gl K "Meter") "readings") "property" = some (.ref (Hx.rh K (Hx.me K (Hx.gl K "Meter") "readings") "property") :: (Hx.rt K (Hx.me K (Hx.gl K "Meter") "readings") "property")))
abbrev ck_321 (K : Hx.Fr) : Bool := decide (PySem.W.codeIn K (Hx.fv (·.code) K (Hx.rh K (Hx.me K (Hx.gl K "Meter") "readings") "property")) "Meter.readings" = true)
abbrev ck_322 (K : Hx.Fr) : Bool := decide (PySem.W.keepIn K (.ref (Hx.rh K (Hx.me K (Hx.gl K "Meter") "readings") "property")) = true)
abbrev ck_323 (K : Hx.Fr) : Bool := decide (PySem.W.findIn K (.ref (Hx.gl K "Meter")) "most" = some (some (.ref (Hx.me K (Hx.gl K "Meter") "most"))))
abbrev ck_324 (K : Hx.Fr) : Bool := decide (PySem.W.specialIn K (.ref (Hx.me K (Hx.gl K "Meter") "most")) "__get__" = some (some (.builtin "property.__get__")))
abbrev ck_325 (K : Hx.Fr) : Bool := decide (PySem.W.takesIn K (.ref (Hx.me K (Hx.gl K "Meter") "most")) = some true)
abbrev ck_326 (K : Hx.Fr) : Bool := decide (PySem.W.recIn K (Hx.me K (Hx.gl K "Meter") "most") "property" = some (.ref (Hx.rh K (Hx.me K (Hx.gl K "Meter") "most") "property") :: (Hx.rt K (Hx.me K (Hx.gl K "Meter") "most") "property")))
abbrev ck_327 (K : Hx.Fr) : Bool := decide (PySem.W.codeIn K (Hx.fv (·.code) K (Hx.rh K (Hx.me K (Hx.gl K "Meter") "most") "property")) "Meter.most" = true)
abbrev ck_328 (K : Hx.Fr) : Bool := decide (PySem.W.keepIn K (.ref (Hx.rh K (Hx.me K (Hx.gl K "Meter") "most") "property")) = true)
abbrev ck_329 (K : Hx.Fr) : Bool := decide (PySem.W.findIn K (.ref (Hx.gl K "Meter")) "steps" = some (some (.ref (Hx.me K (Hx.gl K "Meter") "steps"))))
abbrev ck_330 (K : Hx.Fr) : Bool := decide (PySem.W.specialIn K (.ref (Hx.me K (Hx.gl K "Meter") "steps")) "__get__" = some (some (.builtin "property.__get__")))
abbrev ck_331 (K : Hx.Fr) : Bool := decide (PySem.W.takesIn K (.ref (Hx.me K (Hx.gl K "Meter") "steps")) = some true)
abbrev ck_332 (K : Hx.Fr) : Bool := decide (PySem.W.recIn K (Hx.me K (Hx.gl K "Meter") "steps") "property" = some (.ref (Hx.rh K (Hx.me K (Hx.gl K "Meter") "steps") "property") :: (Hx.rt K (Hx.me K (Hx.gl K "Meter") "steps") "property")))
abbrev ck_333 (K : Hx.Fr) : Bool := decide (PySem.W.codeIn K (Hx.fv (·.code) K (Hx.rh K (Hx.me K (Hx.gl K "Meter") "steps") "property")) "Meter.steps" = true)
abbrev ck_334 (K : Hx.Fr) : Bool := decide (PySem.W.keepIn K (.ref (Hx.rh K (Hx.me K (Hx.gl K "Meter") "steps") "property")) = true)
abbrev ck_335 (K : Hx.Fr) : Bool := decide (PySem.W.findIn K (.ref (Hx.gl K "Meter")) "settle" = some (some (.ref (Hx.me K (Hx.gl K "Meter") "settle"))))
abbrev ck_336 (K : Hx.Fr) : Bool := decide (PySem.W.isFn K (.ref (Hx.me K (Hx.gl K "Meter") "settle")) = true)
abbrev ck_337 (K : Hx.Fr) : Bool := decide (PySem.W.fnIn K (Hx.me K (Hx.gl K "Meter") "settle") = true)
abbrev ck_338 (K : Hx.Fr) : Bool := decide (PySem.W.codeIn K (Hx.fv (·.code) K (Hx.me K (Hx.gl K "Meter") "settle")) "Meter.settle" = true)
abbrev ck_339 (K : Hx.Fr) : Bool := decide (PySem.W.keepIn K (.ref (Hx.me K (Hx.gl K "Meter") "settle")) = true)
abbrev ck_340 (K : Hx.Fr) : Bool := decide (PySem.W.findIn K (.ref (Hx.gl K "Meter")) "take" = some (some (.ref (Hx.me K (Hx.gl K "Meter") "take"))))
abbrev ck_341 (K : Hx.Fr) : Bool := decide (PySem.W.isFn K (.ref (Hx.me K (Hx.gl K "Meter") "take")) = true)
abbrev ck_342 (K : Hx.Fr) : Bool := decide (PySem.W.fnIn K (Hx.me K (Hx.gl K "Meter") "take") = true)
abbrev ck_343 (K : Hx.Fr) : Bool := decide (PySem.W.codeIn K (Hx.fv (·.code) K (Hx.me K (Hx.gl K "Meter") "take")) "Meter.take" = true)
abbrev ck_344 (K : Hx.Fr) : Bool := decide (PySem.W.keepIn K (.ref (Hx.me K (Hx.gl K "Meter") "take")) = true)
abbrev ck_345 (K : Hx.Fr) : Bool := decide (PySem.W.findIn K (.ref (Hx.gl K "Meter")) "add" = some (some (.ref (Hx.me K (Hx.gl K "Meter") "add"))))
abbrev ck_346 (K : Hx.Fr) : Bool := decide (PySem.W.isFn K (.ref (Hx.me K (Hx.gl K "Meter") "add")) = true)
abbrev ck_347 (K : Hx.Fr) : Bool := decide (PySem.W.fnIn K (Hx.me K (Hx.gl K "Meter") "add") = true)
abbrev ck_348 (K : Hx.Fr) : Bool := decide (PySem.W.codeIn K (Hx.fv (·.code) K (Hx.me K (Hx.gl K "Meter") "add")) "Meter.add" = true)
abbrev ck_349 (K : Hx.Fr) : Bool := decide (PySem.W.keepIn K (.ref (Hx.me K (Hx.gl K "Meter") "add")) = true)
abbrev ck_350 (K : Hx.Fr) : Bool := decide (PySem.W.findIn K (.ref (Hx.gl K "Meter")) "__len__" = some (some (.ref (Hx.me K (Hx.gl K "Meter") "__len__"))))
abbrev ck_351 (K : Hx.Fr) : Bool := decide (PySem.W.isFn K (.ref (Hx.me K (Hx.gl K "Meter") "__len__")) = true)
abbrev ck_352 (K : Hx.Fr) : Bool := decide (PySem.W.fnIn K (Hx.me K (Hx.gl K "Meter") "__len__") = true)
abbrev ck_353 (K : Hx.Fr) : Bool := decide (PySem.W.codeIn K (Hx.fv (·.code) K (Hx.me K (Hx.gl K "Meter") "__len__")) "Meter.__len__" = true)
abbrev ck_354 (K : Hx.Fr) : Bool := decide (PySem.W.keepIn K (.ref (Hx.me K (Hx.gl K "Meter") "__len__")) = true)
abbrev ck_355 (K : Hx.Fr) : Bool := decide (PySem.W.findIn K (.ref (Hx.gl K "Meter")) "__contains__" = some (some (.ref (Hx.me K (Hx.gl K "Meter") "__contains__"))))
abbrev ck_356 (K : Hx.Fr) : Bool := decide (PySem.W.isFn K (.ref (Hx.me K (Hx.gl K "Meter") "__contains__")) = true)
abbrev ck_357 (K : Hx.Fr) : Bool := decide (PySem.W.fnIn K (Hx.me K (Hx.gl K "Meter") "__contains__") = true)
abbrev ck_358 (K : Hx.Fr) : Bool := decide (PySem.W.codeIn K (Hx.fv (·.code) K (Hx.me K (Hx.gl K "Meter") "__contains__")) "Meter.__contains__" = true)
abbrev ck_359 (K : Hx.Fr) : Bool := decide (PySem.W.keepIn K (.ref (Hx.me K (Hx.gl K "Meter") "__contains__")) = true)
abbrev ck_360 (K : Hx.Fr) : Bool := decide (PySem.W.findIn K (.ref (Hx.gl K "Meter")) "__getitem__" = some (some (.ref (Hx.me K (Hx.gl K "Meter") "__getitem__"))))
abbrev ck_361 (K : Hx.Fr) : Bool := decide (PySem.W.isFn K (.ref (Hx.me K (Hx.gl K "Meter") "__getitem__")) = true)
abbrev ck_362 (K : Hx.Fr) : Bool := decide (PySem.W.fnIn K (Hx.me K (Hx.gl K "Meter") "__getitem__") = true)
abbrev ck_363 (K : Hx.Fr) : Bool := decide (PySem.W.codeIn K (Hx.fv (·.code) K (Hx.me K (Hx.gl K "Meter") "__getitem__")) "Meter.__getitem__" = true)
abbrev ck_364 (K : Hx.Fr) : Bool := decide (PySem.W.keepIn K (.ref (Hx.me K (Hx.gl K "Meter") "__getitem__")) = true)
abbrev ck_365 (K : Hx.Fr) : Bool := decide (PySem.W.nsIn K mainGlobals "_law_pen" = some (some (.ref (Hx.gl K "_law_pen"))))
abbrev ck_366 (K : Hx.Fr) : Bool := decide (PySem.W.codeIn K (Hx.fv (·.code) K (Hx.gl K "_law_pen")) "_law_pen" = true)
abbrev ck_367 (K : Hx.Fr) : Bool := decide (PySem.W.keepIn K (.ref (Hx.gl K "_law_pen")) = true)
abbrev ck_368 (K : Hx.Fr) : Bool := decide (PySem.W.nsIn K mainGlobals "_law_draw" = some (some (.ref (Hx.gl K "_law_draw"))))
abbrev ck_369 (K : Hx.Fr) : Bool := decide (PySem.W.codeIn K (Hx.fv (·.code) K (Hx.gl K "_law_draw")) "_law_draw" = true)
abbrev ck_370 (K : Hx.Fr) : Bool := decide (PySem.W.keepIn K (.ref (Hx.gl K "_law_draw")) = true)
abbrev ck_371 (K : Hx.Fr) : Bool := decide (PySem.W.nsIn K mainGlobals "_law_divisor" = some (some (.ref (Hx.gl K "_law_divisor"))))
abbrev ck_372 (K : Hx.Fr) : Bool := decide (PySem.W.codeIn K (Hx.fv (·.code) K (Hx.gl K "_law_divisor")) "_law_divisor" = true)
abbrev ck_373 (K : Hx.Fr) : Bool := decide (PySem.W.keepIn K (.ref (Hx.gl K "_law_divisor")) = true)
abbrev ck_374 (K : Hx.Fr) : Bool := decide (PySem.W.nsIn K mainGlobals "_law_agree" = some (some (.ref (Hx.gl K "_law_agree"))))
abbrev ck_375 (K : Hx.Fr) : Bool := decide (PySem.W.codeIn K (Hx.fv (·.code) K (Hx.gl K "_law_agree")) "_law_agree" = true)
abbrev ck_376 (K : Hx.Fr) : Bool := decide (PySem.W.keepIn K (.ref (Hx.gl K "_law_agree")) = true)
abbrev ck_377 (K : Hx.Fr) : Bool := decide (PySem.W.nsIn K mainGlobals "_law_size" = some (some (.ref (Hx.gl K "_law_size"))))
abbrev ck_378 (K : Hx.Fr) : Bool := decide (PySem.W.codeIn K (Hx.fv (·.code) K (Hx.gl K "_law_size")) "_law_size" = true)
abbrev ck_379 (K : Hx.Fr) : Bool := decide (PySem.W.keepIn K (.ref (Hx.gl K "_law_size")) = true)
abbrev ck_380 (K : Hx.Fr) : Bool := decide (PySem.W.nsIn K mainGlobals "_law_source" = some (some (.ref (Hx.gl K "_law_source"))))
abbrev ck_381 (K : Hx.Fr) : Bool := decide (PySem.W.codeIn K (Hx.fv (·.code) K (Hx.gl K "_law_source")) "_law_source" = true)
abbrev ck_382 (K : Hx.Fr) : Bool := decide (PySem.W.keepIn K (.ref (Hx.gl K "_law_source")) = true)
abbrev ck_383 (K : Hx.Fr) : Bool := decide (PySem.W.nsIn K mainGlobals "_law_length" = some (some (.ref (Hx.gl K "_law_length"))))
abbrev ck_384 (K : Hx.Fr) : Bool := decide (PySem.W.codeIn K (Hx.fv (·.code) K (Hx.gl K "_law_length")) "_law_length" = true)
abbrev ck_385 (K : Hx.Fr) : Bool := decide (PySem.W.keepIn K (.ref (Hx.gl K "_law_length")) = true)
abbrev ck_386 (K : Hx.Fr) : Bool := decide (PySem.W.nsIn K mainGlobals "_law_reading" = some (some (.ref (Hx.gl K "_law_reading"))))
abbrev ck_387 (K : Hx.Fr) : Bool := decide (PySem.W.codeIn K (Hx.fv (·.code) K (Hx.gl K "_law_reading")) "_law_reading" = true)
abbrev ck_388 (K : Hx.Fr) : Bool := decide (PySem.W.keepIn K (.ref (Hx.gl K "_law_reading")) = true)
abbrev ck_389 (K : Hx.Fr) : Bool := decide (PySem.W.nsIn K mainGlobals "_law_fields" = some (some (.ref (Hx.gl K "_law_fields"))))
abbrev ck_390 (K : Hx.Fr) : Bool := decide (PySem.W.codeIn K (Hx.fv (·.code) K (Hx.gl K "_law_fields")) "_law_fields" = true)
abbrev ck_391 (K : Hx.Fr) : Bool := decide (PySem.W.keepIn K (.ref (Hx.gl K "_law_fields")) = true)
abbrev ck_392 (K : Hx.Fr) : Bool := decide (PySem.W.nsIn K mainGlobals "_law_heard" = some (some (.ref (Hx.gl K "_law_heard"))))
abbrev ck_393 (K : Hx.Fr) : Bool := decide (PySem.W.codeIn K (Hx.fv (·.code) K (Hx.gl K "_law_heard")) "_law_heard" = true)
abbrev ck_394 (K : Hx.Fr) : Bool := decide (PySem.W.keepIn K (.ref (Hx.gl K "_law_heard")) = true)
abbrev ck_395 (K : Hx.Fr) : Bool := decide (PySem.W.nsIn K mainGlobals "_law_odd" = some (some (.ref (Hx.gl K "_law_odd"))))
abbrev ck_396 (K : Hx.Fr) : Bool := decide (PySem.W.codeIn K (Hx.fv (·.code) K (Hx.gl K "_law_odd")) "_law_odd" = true)
abbrev ck_397 (K : Hx.Fr) : Bool := decide (PySem.W.keepIn K (.ref (Hx.gl K "_law_odd")) = true)
abbrev ck_398 (K : Hx.Fr) : Bool := decide (PySem.W.nsIn K mainGlobals "_law_added" = some (some (.ref (Hx.gl K "_law_added"))))
abbrev ck_399 (K : Hx.Fr) : Bool := decide (PySem.W.codeIn K (Hx.fv (·.code) K (Hx.gl K "_law_added")) "_law_added" = true)
abbrev ck_400 (K : Hx.Fr) : Bool := decide (PySem.W.keepIn K (.ref (Hx.gl K "_law_added")) = true)
abbrev ck_401 (K : Hx.Fr) : Bool := decide (PySem.W.nsIn K mainGlobals "_law_stands" = some (some (.ref (Hx.gl K "_law_stands"))))
abbrev ck_402 (K : Hx.Fr) : Bool := decide (Hx.fv (·.code) K (Hx.gl K "_law_stands") = .ref (Hx.cA K (Hx.gl K "_law_stands")))
abbrev ck_403 (K : Hx.Fr) : Bool := decide (PySem.W.codeIn K (.ref (Hx.cA K (Hx.gl K "_law_stands"))) "_law_stands" = true)
abbrev ck_404 (K : Hx.Fr) : Bool := decide (PySem.W.keepIn K (.ref (Hx.gl K "_law_stands")) = true)
abbrev ck_405 (K : Hx.Fr) : Bool := Hx.flOk K (Hx.cA K (Hx.gl K "_law_stands"))
abbrev ck_406 (K : Hx.Fr) : Bool := decide ((Hx.fl K (Hx.cA K (Hx.gl K "_law_stands")))[11]? = some (.ref (Hx.r11 K (Hx.cA K (Hx.gl K "_law_stands")))))
abbrev ck_407 (K : Hx.Fr) : Bool := (K.lookup (Hx.r11 K (Hx.cA K (Hx.gl K "_law_stands")))).isNone
abbrev ck_408 (K : Hx.Fr) : Bool := decide (PySem.W.nsIn K mainGlobals "law" = some (some (.ref (Hx.gl K "law"))))
abbrev ck_409 (K : Hx.Fr) : Bool := decide (Hx.fv (·.code) K (Hx.gl K "law") = .ref (Hx.cA K (Hx.gl K "law")))
abbrev ck_410 (K : Hx.Fr) : Bool := decide (PySem.W.codeIn K (.ref (Hx.cA K (Hx.gl K "law"))) "law" = true)
abbrev ck_411 (K : Hx.Fr) : Bool := decide (PySem.W.keepIn K (.ref (Hx.gl K "law")) = true)
abbrev ck_412 (K : Hx.Fr) : Bool := Hx.flOk K (Hx.cA K (Hx.gl K "law"))
abbrev ck_413 (K : Hx.Fr) : Bool := decide ((Hx.fl K (Hx.cA K (Hx.gl K "law")))[11]? = some (.ref (Hx.r11 K (Hx.cA K (Hx.gl K "law")))))
abbrev ck_414 (K : Hx.Fr) : Bool := (K.lookup (Hx.r11 K (Hx.cA K (Hx.gl K "law")))).isNone
abbrev ck_415 (K : Hx.Fr) : Bool := decide (PySem.W.codeIn K (Hx.fv (·.code) K (Hx.me K (Hx.gl K "Contradiction") "__init__")) "Contradiction.__init__" = true)
abbrev ck_416 (K : Hx.Fr) : Bool := decide (PySem.W.keepIn K (.ref (Hx.me K (Hx.gl K "Contradiction") "__init__")) = true)
abbrev ck_417 (K : Hx.Fr) : Bool := decide (PySem.W.codeIn K (Hx.fv (·.code) K (Hx.me K (Hx.gl K "InvalidBound") "__init__")) "InvalidBound.__init__" = true)
abbrev ck_418 (K : Hx.Fr) : Bool := decide (PySem.W.keepIn K (.ref (Hx.me K (Hx.gl K "InvalidBound") "__init__")) = true)
abbrev ck_419 (K : Hx.Fr) : Bool := decide (PySem.W.codeIn K (Hx.fv (·.code) K (Hx.me K (Hx.gl K "InvalidCapacity") "__init__")) "InvalidCapacity.__init__" = true)
abbrev ck_420 (K : Hx.Fr) : Bool := decide (PySem.W.keepIn K (.ref (Hx.me K (Hx.gl K "InvalidCapacity") "__init__")) = true)
abbrev ck_421 (K : Hx.Fr) : Bool := decide (PySem.W.codeIn K (Hx.fv (·.code) K (Hx.me K (Hx.gl K "InvalidReading") "__init__")) "InvalidReading.__init__" = true)
abbrev ck_422 (K : Hx.Fr) : Bool := decide (PySem.W.keepIn K (.ref (Hx.me K (Hx.gl K "InvalidReading") "__init__")) = true)
abbrev ck_423 (K : Hx.Fr) : Bool := decide (PySem.W.codeIn K (Hx.fv (·.code) K (Hx.me K (Hx.gl K "NoReading") "__init__")) "NoReading.__init__" = true)
abbrev ck_424 (K : Hx.Fr) : Bool := decide (PySem.W.keepIn K (.ref (Hx.me K (Hx.gl K "NoReading") "__init__")) = true)
abbrev ck_425 (K : Hx.Fr) : Bool := decide ([(Hx.r11 K (Hx.cA K (Hx.gl K "law"))), (Hx.r11 K (Hx.cA K (Hx.gl K "_law_stands")))].Nodup)
abbrev ck_426 (K : Hx.Fr) : Bool := decide (PySem.W.nsIn K mainGlobals "LookupError" = some none)
abbrev ck_427 (K : Hx.Fr) : Bool := decide (PySem.W.nsIn K mainGlobals "ValueError" = some none)
abbrev ck_428 (K : Hx.Fr) : Bool := decide (PySem.W.nsIn K mainGlobals "abs" = some none)
abbrev ck_429 (K : Hx.Fr) : Bool := decide (PySem.W.nsIn K mainGlobals "any" = some none)
abbrev ck_430 (K : Hx.Fr) : Bool := decide (PySem.W.nsIn K mainGlobals "bool" = some none)
abbrev ck_431 (K : Hx.Fr) : Bool := decide (PySem.W.nsIn K mainGlobals "int" = some none)
abbrev ck_432 (K : Hx.Fr) : Bool := decide (PySem.W.nsIn K mainGlobals "isinstance" = some none)
abbrev ck_433 (K : Hx.Fr) : Bool := decide (PySem.W.nsIn K mainGlobals "len" = some none)
abbrev ck_434 (K : Hx.Fr) : Bool := decide (PySem.W.nsIn K mainGlobals "list" = some none)
abbrev ck_435 (K : Hx.Fr) : Bool := decide (PySem.W.nsIn K mainGlobals "range" = some none)
abbrev ck_436 (K : Hx.Fr) : Bool := decide (PySem.W.nsIn K mainGlobals "repr" = some none)
abbrev ck_437 (K : Hx.Fr) : Bool := decide (PySem.W.nsIn K mainGlobals "sorted" = some none)
abbrev ck_438 (K : Hx.Fr) : Bool := decide (PySem.W.nsIn K mainGlobals "sum" = some none)
abbrev ck_439 (K : Hx.Fr) : Bool := decide (PySem.W.nsIn K mainGlobals "tuple" = some none)
abbrev ck_440 (K : Hx.Fr) : Bool := decide (PySem.W.nsIn K mainGlobals "MOST_LENGTH" = some (some (Value.int 1000000000000000000000000000000 (Hx.tk (PySem.W.nsIn K mainGlobals "MOST_LENGTH")))))
abbrev ck_441 (K : Hx.Fr) : Bool := decide (PySem.W.nsIn K mainGlobals "MOST_READ" = some (some (Value.int 10000 (Hx.tk (PySem.W.nsIn K mainGlobals "MOST_READ")))))
noncomputable def cks_0 : List (Hx.Fr → Bool) := [ck_0, ck_1, ck_2, ck_3, ck_4, ck_5, ck_6, ck_7, ck_8, ck_9, ck_10, ck_11, ck_12, ck_13, ck_14, ck_15, ck_16, ck_17, ck_18, ck_19, ck_20, ck_21, ck_22, ck_23, ck_24, ck_25, ck_26, ck_27, ck_28, ck_29, ck_30, ck_31, ck_32, ck_33, ck_34, ck_35, ck_36, ck_37, ck_38, ck_39]
noncomputable def cks_1 : List (Hx.Fr → Bool) := [ck_40, ck_41, ck_42, ck_43, ck_44, ck_45, ck_46, ck_47, ck_48, ck_49, ck_50, ck_51, ck_52, ck_53, ck_54, ck_55, ck_56, ck_57, ck_58, ck_59, ck_60, ck_61, ck_62, ck_63, ck_64, ck_65, ck_66, ck_67, ck_68, ck_69, ck_70, ck_71, ck_72, ck_73, ck_74, ck_75, ck_76, ck_77, ck_78, ck_79]
noncomputable def cks_2 : List (Hx.Fr → Bool) := [ck_80, ck_81, ck_82, ck_83, ck_84, ck_85, ck_86, ck_87, ck_88, ck_89, ck_90, ck_91, ck_92, ck_93, ck_94, ck_95, ck_96, ck_97, ck_98, ck_99, ck_100, ck_101, ck_102, ck_103, ck_104, ck_105, ck_106, ck_107, ck_108, ck_109, ck_110, ck_111, ck_112, ck_113, ck_114, ck_115, ck_116, ck_117, ck_118, ck_119]
noncomputable def cks_3 : List (Hx.Fr → Bool) := [ck_120, ck_121, ck_122, ck_123, ck_124, ck_125, ck_126, ck_127, ck_128, ck_129, ck_130, ck_131, ck_132, ck_133, ck_134, ck_135, ck_136, ck_137, ck_138, ck_139, ck_140, ck_141, ck_142, ck_143, ck_144, ck_145, ck_146, ck_147, ck_148, ck_149, ck_150, ck_151, ck_152, ck_153, ck_154, ck_155, ck_156, ck_157, ck_158, ck_159]
noncomputable def cks_4 : List (Hx.Fr → Bool) := [ck_160, ck_161, ck_162, ck_163, ck_164, ck_165, ck_166, ck_167, ck_168, ck_169, ck_170, ck_171, ck_172, ck_173, ck_174, ck_175, ck_176, ck_177, ck_178, ck_179, ck_180, ck_181, ck_182, ck_183, ck_184, ck_185, ck_186, ck_187, ck_188, ck_189, ck_190, ck_191, ck_192, ck_193, ck_194, ck_195, ck_196, ck_197, ck_198, ck_199]
noncomputable def cks_5 : List (Hx.Fr → Bool) := [ck_200, ck_201, ck_202, ck_203, ck_204, ck_205, ck_206, ck_207, ck_208, ck_209, ck_210, ck_211, ck_212, ck_213, ck_214, ck_215, ck_216, ck_217, ck_218, ck_219, ck_220, ck_221, ck_222, ck_223, ck_224, ck_225, ck_226, ck_227, ck_228, ck_229, ck_230, ck_231, ck_232, ck_233, ck_234, ck_235, ck_236, ck_237, ck_238, ck_239]
noncomputable def cks_6 : List (Hx.Fr → Bool) := [ck_240, ck_241, ck_242, ck_243, ck_244, ck_245, ck_246, ck_247, ck_248, ck_249, ck_250, ck_251, ck_252, ck_253, ck_254, ck_255, ck_256, ck_257, ck_258, ck_259, ck_260, ck_261, ck_262, ck_263, ck_264, ck_265, ck_266, ck_267, ck_268, ck_269, ck_270, ck_271, ck_272, ck_273, ck_274, ck_275, ck_276, ck_277, ck_278, ck_279]
noncomputable def cks_7 : List (Hx.Fr → Bool) := [ck_280, ck_281, ck_282, ck_283, ck_284, ck_285, ck_286, ck_287, ck_288, ck_289, ck_290, ck_291, ck_292, ck_293, ck_294, ck_295, ck_296, ck_297, ck_298, ck_299, ck_300, ck_301, ck_302, ck_303, ck_304, ck_305, ck_306, ck_307, ck_308, ck_309, ck_310, ck_311, ck_312, ck_313, ck_314, ck_315, ck_316, ck_317, ck_318, ck_319]
noncomputable def cks_8 : List (Hx.Fr → Bool) := [ck_320, ck_321, ck_322, ck_323, ck_324, ck_325, ck_326, ck_327, ck_328, ck_329, ck_330, ck_331, ck_332, ck_333, ck_334, ck_335, ck_336, ck_337, ck_338, ck_339, ck_340, ck_341, ck_342, ck_343, ck_344, ck_345, ck_346, ck_347, ck_348, ck_349, ck_350, ck_351, ck_352, ck_353, ck_354, ck_355, ck_356, ck_357, ck_358, ck_359]
noncomputable def cks_9 : List (Hx.Fr → Bool) := [ck_360, ck_361, ck_362, ck_363, ck_364, ck_365, ck_366, ck_367, ck_368, ck_369, ck_370, ck_371, ck_372, ck_373, ck_374, ck_375, ck_376, ck_377, ck_378, ck_379, ck_380, ck_381, ck_382, ck_383, ck_384, ck_385, ck_386, ck_387, ck_388, ck_389, ck_390, ck_391, ck_392, ck_393, ck_394, ck_395, ck_396, ck_397, ck_398, ck_399]
noncomputable def cks_10 : List (Hx.Fr → Bool) := [ck_400, ck_401, ck_402, ck_403, ck_404, ck_405, ck_406, ck_407, ck_408, ck_409, ck_410, ck_411, ck_412, ck_413, ck_414, ck_415, ck_416, ck_417, ck_418, ck_419, ck_420, ck_421, ck_422, ck_423, ck_424, ck_425, ck_426, ck_427, ck_428, ck_429, ck_430, ck_431, ck_432, ck_433, ck_434, ck_435, ck_436, ck_437, ck_438, ck_439]
noncomputable def cks_11 : List (Hx.Fr → Bool) := [ck_440, ck_441]
noncomputable def ct_0 : List (List (Hx.Fr → Bool)) := [cks_0, cks_1, cks_2, cks_3]
noncomputable def ct_1 : List (List (Hx.Fr → Bool)) := [cks_4, cks_5, cks_6, cks_7]
noncomputable def ct_2 : List (List (Hx.Fr → Bool)) := [cks_8, cks_9, cks_10, cks_11]
noncomputable abbrev cks : List (List (Hx.Fr → Bool)) := (ct_0 ++ (ct_1 ++ ct_2))
noncomputable def fn_0 : Hx.FnX := ⟨fun K => (Hx.gl K "is_integer"), "is_integer", "is_integer", s_is_integer, false⟩
noncomputable def fn_1 : Hx.FnX := ⟨fun K => (Hx.gl K "is_between"), "is_between", "is_between", s_is_between, false⟩
noncomputable def fn_2 : Hx.FnX := ⟨fun K => (Hx.gl K "common_divisor"), "common_divisor", "common_divisor", s_common_divisor, false⟩
noncomputable def fn_3 : Hx.FnX := ⟨fun K => (Hx.gl K "modulus_of"), "modulus_of", "modulus_of", s_modulus_of, false⟩
noncomputable def fn_4 : Hx.FnX := ⟨fun K => (Hx.gl K "shared"), "shared", "shared", s_shared, false⟩
noncomputable def fn_5 : Hx.FnX := ⟨fun K => (Hx.gl K "do_agree"), "do_agree", "do_agree", s_do_agree, false⟩
noncomputable def fn_6 : Hx.FnX := ⟨fun K => (Hx.gl K "need_capacity_meters"), "need_capacity", "need_capacity", s_need_capacity_meters, false⟩
noncomputable def fn_7 : Hx.FnX := ⟨fun K => (Hx.gl K "need_bound"), "need_bound", "need_bound", s_need_bound, false⟩
noncomputable def fn_8 : Hx.FnX := ⟨fun K => (Hx.me K (Hx.gl K "Meter") "__init__"), "__init__", "Meter.__init__", s_Meter___init__, false⟩
noncomputable def fn_9 : Hx.FnX := ⟨fun K => (Hx.rh K (Hx.me K (Hx.gl K "Meter") "readings") "property"), "readings", "Meter.readings", s_Meter_readings, false⟩
noncomputable def fn_10 : Hx.FnX := ⟨fun K => (Hx.rh K (Hx.me K (Hx.gl K "Meter") "most") "property"), "most", "Meter.most", s_Meter_most, false⟩
noncomputable def fn_11 : Hx.FnX := ⟨fun K => (Hx.rh K (Hx.me K (Hx.gl K "Meter") "steps") "property"), "steps", "Meter.steps", s_Meter_steps, false⟩
noncomputable def fn_12 : Hx.FnX := ⟨fun K => (Hx.me K (Hx.gl K "Meter") "settle"), "settle", "Meter.settle", s_Meter_settle, false⟩
noncomputable def fn_13 : Hx.FnX := ⟨fun K => (Hx.me K (Hx.gl K "Meter") "take"), "take", "Meter.take", s_Meter_take, false⟩
noncomputable def fn_14 : Hx.FnX := ⟨fun K => (Hx.me K (Hx.gl K "Meter") "add"), "add", "Meter.add", s_Meter_add, false⟩
noncomputable def fn_15 : Hx.FnX := ⟨fun K => (Hx.me K (Hx.gl K "Meter") "__len__"), "__len__", "Meter.__len__", s_Meter___len__, false⟩
noncomputable def fn_16 : Hx.FnX := ⟨fun K => (Hx.me K (Hx.gl K "Meter") "__contains__"), "__contains__", "Meter.__contains__", s_Meter___contains__, false⟩
noncomputable def fn_17 : Hx.FnX := ⟨fun K => (Hx.me K (Hx.gl K "Meter") "__getitem__"), "__getitem__", "Meter.__getitem__", s_Meter___getitem__, false⟩
noncomputable def fn_18 : Hx.FnX := ⟨fun K => (Hx.gl K "_law_pen"), "_law_pen", "_law_pen", s__law_pen, false⟩
noncomputable def fn_19 : Hx.FnX := ⟨fun K => (Hx.gl K "_law_draw"), "_law_draw", "_law_draw", s__law_draw, false⟩
noncomputable def fn_20 : Hx.FnX := ⟨fun K => (Hx.gl K "_law_divisor"), "_law_divisor", "_law_divisor", s__law_divisor, false⟩
noncomputable def fn_21 : Hx.FnX := ⟨fun K => (Hx.gl K "_law_agree"), "_law_agree", "_law_agree", s__law_agree, false⟩
noncomputable def fn_22 : Hx.FnX := ⟨fun K => (Hx.gl K "_law_size"), "_law_size", "_law_size", s__law_size, false⟩
noncomputable def fn_23 : Hx.FnX := ⟨fun K => (Hx.gl K "_law_source"), "_law_source", "_law_source", s__law_source, false⟩
noncomputable def fn_24 : Hx.FnX := ⟨fun K => (Hx.gl K "_law_length"), "_law_length", "_law_length", s__law_length, false⟩
noncomputable def fn_25 : Hx.FnX := ⟨fun K => (Hx.gl K "_law_reading"), "_law_reading", "_law_reading", s__law_reading, false⟩
noncomputable def fn_26 : Hx.FnX := ⟨fun K => (Hx.gl K "_law_fields"), "_law_fields", "_law_fields", s__law_fields, false⟩
noncomputable def fn_27 : Hx.FnX := ⟨fun K => (Hx.gl K "_law_heard"), "_law_heard", "_law_heard", s__law_heard, false⟩
noncomputable def fn_28 : Hx.FnX := ⟨fun K => (Hx.gl K "_law_odd"), "_law_odd", "_law_odd", s__law_odd, false⟩
noncomputable def fn_29 : Hx.FnX := ⟨fun K => (Hx.gl K "_law_added"), "_law_added", "_law_added", s__law_added, false⟩
noncomputable def fn_30 : Hx.FnX := ⟨fun K => (Hx.gl K "_law_stands"), "_law_stands", "_law_stands", s__law_stands, false⟩
noncomputable def fn_31 : Hx.FnX := ⟨fun K => (Hx.gl K "law"), "law", "law", s_law, false⟩
noncomputable def fn_32 : Hx.FnX := ⟨fun K => (Hx.me K (Hx.gl K "Contradiction") "__init__"), "__init__", "Contradiction.__init__", s_Contradiction___init__, false⟩
noncomputable def fn_33 : Hx.FnX := ⟨fun K => (Hx.me K (Hx.gl K "InvalidBound") "__init__"), "__init__", "InvalidBound.__init__", s_InvalidBound___init__, false⟩
noncomputable def fn_34 : Hx.FnX := ⟨fun K => (Hx.me K (Hx.gl K "InvalidCapacity") "__init__"), "__init__", "InvalidCapacity.__init__", s_InvalidCapacity___init__, false⟩
noncomputable def fn_35 : Hx.FnX := ⟨fun K => (Hx.me K (Hx.gl K "InvalidReading") "__init__"), "__init__", "InvalidReading.__init__", s_InvalidReading___init__, false⟩
noncomputable def fn_36 : Hx.FnX := ⟨fun K => (Hx.me K (Hx.gl K "NoReading") "__init__"), "__init__", "NoReading.__init__", s_NoReading___init__, false⟩
noncomputable def fns : List Hx.FnX := [fn_0, fn_1, fn_2, fn_3, fn_4, fn_5, fn_6, fn_7, fn_8, fn_9, fn_10, fn_11, fn_12, fn_13, fn_14, fn_15, fn_16, fn_17, fn_18, fn_19, fn_20, fn_21, fn_22, fn_23, fn_24, fn_25, fn_26, fn_27, fn_28, fn_29, fn_30, fn_31, fn_32, fn_33, fn_34, fn_35, fn_36]
abbrev Rw : PySem.W.OpenRow := PySem.W.OpenLaw.row PySem.Challenge.rw_forkecho_k71_readings_added
noncomputable abbrev hk : PySem.W.Hook := Hx.hookX 3000 [] cks fns
noncomputable abbrev ob : PySem.W.SharedT → Hx.AlX := Hx.obT 3000 [] cks fns
theorem ob_eq (s : PySem.W.SharedT) : ob s = hk.obs s.abs := Hx.obT_eq s
def names : List Str := (Rw.prog.main.scope.names.map (·.1)).filter fun x => x != "_law_stands" && x != "law" && x != "__name__"
set_option maxHeartbeats 0 in
theorem run_b (w : World) : HandSHeadRun.RunEq Rw (PySem.W.view Rw.prog [72, 73]) (Hx.hookX 3000 [] [] []) (Hx.obT 3000 [] [] []) 100000 names w := by
  intro os
  kernel_rfl
set_option maxHeartbeats 0 in
theorem run_0 (w : World) : Hx.RunO Rw (PySem.W.view Rw.prog [72, 73]) (Hx.hookX 3000 [] ct_0 []) (Hx.obT 3000 [] ct_0 []) 100000 w := by
  intro os
  kernel_rfl
set_option maxHeartbeats 0 in
theorem run_1 (w : World) : Hx.RunO Rw (PySem.W.view Rw.prog [72, 73]) (Hx.hookX 3000 [] ct_1 []) (Hx.obT 3000 [] ct_1 []) 100000 w := by
  intro os
  kernel_rfl
set_option maxHeartbeats 0 in
theorem run_2 (w : World) : Hx.RunO Rw (PySem.W.view Rw.prog [72, 73]) (Hx.hookX 3000 [] ct_2 fns) (Hx.obT 3000 [] ct_2 fns) 100000 w := by
  intro os
  kernel_rfl
theorem run (w : World) : HandSHeadRun.RunEq Rw (PySem.W.view Rw.prog [72, 73]) hk ob 100000 names w := Hx.run_base (run_b w) (Hx.runO_join (run_0 w) (Hx.runO_join (run_1 w) (run_2 w)))
end K71
namespace DL
open PySem PySem.Spec L2 C8
/-! ### how the readings unfold -/
section
variable {ρ : EnvD} {h : AH} {Q : KD} {X : KX} {D0 : EndsD} {a b c : WE} {s1 s2 : WS} {t u : WT} {i j : Int} {m : Bool} {xs : List D} {d x y z : D}
theorem u_seq : wSeq s1 s2 D0 ρ h = s1 { D0 with nx := s2 D0 } ρ h := rfl
theorem u_asg {g : WG} : wAsg a g D0 ρ h = a ρ h (fun x h1 => g x ρ h1 D0.nx D0.ex) D0.ex := rfl
theorem u_gN {n : Nat} {Q : EnvD → AH → Prop} : gN n d ρ h Q X = Q (ρ.set n (some d)) h := rfl
theorem u_ret : wRet a D0 ρ h = a ρ h D0.rt D0.ex := rfl
theorem u_retN : wRetN D0 ρ h = D0.rt .non h := rfl
theorem u_skip : wSkip D0 ρ h = D0.nx ρ h := rfl
theorem u_expr : wExpr a D0 ρ h = a ρ h (fun _ h1 => D0.nx ρ h1) D0.ex := rfl
theorem u_ifs : wIfS t s1 s2 D0 ρ h = t ρ h (fun c h1 => if c = true then s1 D0 ρ h1 else s2 D0 ρ h1) D0.ex := rfl
theorem u_c : wC d ρ h Q X = Q d h := rfl
theorem u_var {n : Nat} (e : ρ[n]? = some (some d)) : wVar n ρ h Q X = Q d h := by simp [wVar, e]
theorem u_op {f : D → D → AH → KD → Prop} : wOp f a b ρ h Q X = a ρ h (fun x h1 => b ρ h1 (fun y h2 => f x y h2 Q) X) X := rfl
theorem u_neg : wNeg a ρ h Q X = a ρ h (fun x h1 => match x with
  | .int i => Q (.int (-i)) h1
  | _ => False) X := rfl
theorem u_test {Q : Bool → AH → Prop} : wTest a ρ h Q X = a ρ h (fun x h1 => match x with
  | .bl b => Q b h1
  | _ => False) X := rfl
theorem u_and {Q : Bool → AH → Prop} : wAnd t u ρ h Q X = t ρ h (fun c h1 => if c = true then u ρ h1 Q X else Q false h1) X := rfl
theorem u_or {Q : Bool → AH → Prop} : wOr t u ρ h Q X = t ρ h (fun c h1 => if c = true then Q true h1 else u ρ h1 Q X) X := rfl
theorem u_not {Q : Bool → AH → Prop} : wNot t ρ h Q X = t ρ h (fun c h1 => Q (!c) h1) X := rfl
theorem u_if : wIf t a b ρ h Q X = t ρ h (fun c h1 => if c = true then a ρ h1 Q X else b ρ h1 Q X) X := rfl
theorem u_nil {Q : List D → AH → Prop} : wNil ρ h Q X = Q [] h := rfl
theorem u_cons {r : WA} {Q : List D → AH → Prop} : wCons a r ρ h Q X = a ρ h (fun x h1 => r ρ h1 (fun xs h2 => Q (x :: xs) h2) X) X := rfl
theorem u_tup {l : WA} : wTup l ρ h Q X = l ρ h (fun xs h1 => xs.length ≤ sizeLine ∧ Q (.tup xs) h1) X := rfl
theorem u_lst {l : WA} : wLst m l ρ h Q X = l ρ h (fun xs h1 => xs.length ≤ sizeLine ∧ newL m xs h1 Q) X := rfl
theorem u_callP {S : FSpec} {n : Nat} {g : List D → List D → List D} {l : WA} : wCallP S n g l ρ h Q X = l ρ h (fun ds h1 => ds.length = n ∧ S (g ds []) h1 Q X) X := rfl
theorem u_call {S : FSpec} {n k : Nat} {g : List D → List D → List D} {l r : WA} : wCall S n k g l r ρ h Q X = l ρ h (fun ds h1 => r ρ h1 (fun zs h2 => ds.length = n ∧ zs.length = k ∧ S (g ds zs) h2 Q X) X) X := rfl
theorem u_b {r : List D → AH → KD → Prop} {l : WA} : wB r l ρ h Q X = l ρ h (fun xs h1 => r xs h1 Q) X := rfl
theorem u_chain {f g : D → D → AH → KD → Prop} : wChain f g a b c ρ h Q X = a ρ h (fun x h1 => b ρ h1 (fun y h2 => f x y h2 fun z h3 => match z with
  | .bl k => if k = true then c ρ h3 (fun u h4 => g y u h4 Q) X else Q (.bl false) h3
  | _ => False) X) X := rfl
theorem u_andV : wAndV a b ρ h Q X = a ρ h (fun x h1 => match x with
  | .bl k => if k = true then b ρ h1 Q X else Q (.bl false) h1
  | _ => False) X := rfl
theorem u_addI : dAdd m (.int i) (.int j) h Q = Q (.int (i + j)) h := rfl
theorem u_subI : dSub (.int i) (.int j) h Q = Q (.int (i - j)) h := rfl
theorem u_mulI : dMul m (.int i) (.int j) h Q = (MulOk i j ∧ Q (.int (i * j)) h) := rfl
theorem u_divI : dDiv (.int i) (.int j) h Q = (DivOk j ∧ Q (.int (i / j)) h) := rfl
theorem u_modI : dMod (.int i) (.int j) h Q = (0 < j ∧ Q (.int (i % j)) h) := rfl
theorem u_powI : dPow (.int i) (.int j) h Q = (PowOk i j ∧ Q (.int (i ^ j.toNat)) h) := rfl
theorem u_cmpI {f : Int → Int → Bool} : dCmpI f (.int i) (.int j) h Q = Q (.bl (f i j)) h := rfl
theorem u_eqI {f : Bool → Bool} : dEq f (.int i) (.int j) h Q = Q (.bl (f (decide (i = j)))) h := rfl
theorem u_eqS {f : Bool → Bool} {i j : Str} : dEq f (.str i) (.str j) h Q = Q (.bl (f (decide (i = j)))) h := rfl
theorem u_eqB {f : Bool → Bool} {i j : Bool} : dEq f (.bl i) (.bl j) h Q = Q (.bl (f (decide (i = j)))) h := rfl
theorem u_ixL : dIx (.lst xs) (.int i) h Q = ∃ d, atI xs i = some d ∧ Q d h := by simp [dIx, seqOf, lstOf]
theorem u_ixT : dIx (.tup xs) (.int i) h Q = ∃ d, atI xs i = some d ∧ Q d h := by simp [dIx, seqOf]
theorem u_ixR {p : Addr} (e : h p = some (.lst xs)) : dIx (.ref p) (.int i) h Q = ∃ d, atI xs i = some d ∧ Q d h := by simp [dIx, seqOf, lstOf, e]
theorem u_ixLd (e : atI xs i = some d) : dIx (.lst xs) (.int i) h Q = Q d h := by simp [u_ixL, e]
theorem u_ixTd (e : atI xs i = some d) : dIx (.tup xs) (.int i) h Q = Q d h := by simp [u_ixT, e]
theorem u_ixRd {p : Addr} (e : h p = some (.lst xs)) (e2 : atI xs i = some d) : dIx (.ref p) (.int i) h Q = Q d h := by simp [u_ixR e, e2]
theorem at0 : atI (x :: xs) 0 = some x := by simp [atI, ixN]
theorem at1 : atI (x :: y :: xs) 1 = some y := by
  have : (1 : Int) < (xs.length : Int) + 1 + 1 := by omega
  simp [atI, ixN, this]
theorem at2 : atI (x :: y :: z :: xs) 2 = some z := by
  have : (2 : Int) < (xs.length : Int) + 1 + 1 + 1 := by omega
  simp [atI, ixN, this]
theorem u_abs : dAbs [.int i] h Q = Q (.int (if i < 0 then -i else i)) h := rfl
theorem u_intI : dInt [.int i] h Q = Q (.int i) h := rfl
theorem u_intB {k : Bool} : dInt [.bl k] h Q = Q (.int (if k then 1 else 0)) h := rfl
theorem u_lenL : dLen [.lst xs] h Q = Q (.int (xs.length : Nat)) h := by simp [dLen, lenD, cur]
theorem u_lenT : dLen [.tup xs] h Q = Q (.int (xs.length : Nat)) h := by simp [dLen, lenD, cur]
theorem u_newT : newL true xs h Q = ∀ p, h p = none → Q (.ref p) (up h p (.lst xs)) := by simp [newL]
theorem u_newF : newL false xs h Q = Q (.lst xs) h := by simp [newL]
theorem u_isN : dIsN (fun b => b) .non .non h Q = Q (.bl true) h := rfl
theorem u_notN : dIsN (fun b => !b) .non .non h Q = Q (.bl false) h := rfl
end
/-! ### == of lists -/
theorem pd_ints (cs : List Int) : pds (cs.map D.int) = cs.map PyData.int := by
  induction cs with
  | nil => rfl
  | cons c cs ih => rw [List.map_cons, pds, ih, pd]; rfl
theorem dats_ints (cs : List Int) : dats (cs.map D.int) = true := by
  induction cs with
  | nil => rfl
  | cons c cs ih => rw [List.map_cons, dats, ih]; rfl
theorem lay_ints (cs : List Int) : PyData.canLayAll0 (cs.map PyData.int) = true := by
  induction cs with
  | nil => rw [List.map_nil, PyData.canLayAll0]
  | cons c cs ih => rw [List.map_cons, PyData.canLayAll0, ih, PyData.canLay0]; rfl
theorem dep_ints (cs : List Int) : PyData.depthAll (cs.map PyData.int) = 0 := by
  induction cs with
  | nil => rw [List.map_nil, PyData.depthAll]
  | cons c cs ih => rw [List.map_cons, PyData.depthAll, ih, PyData.depth]; rfl
theorem sh_lst (cs : List Int) : SeqAt.shaped (pd (.lst (cs.map D.int))) = true := by
  rw [pd, pd_ints]; unfold SeqAt.shaped
  rw [PyData.canLay0, PyData.depth, lay_ints, dep_ints]; rfl
theorem eqv_ints : ∀ cs ds : List Int, PyData.eqvAll (cs.map PyData.int) (ds.map PyData.int) = decide (cs = ds)
  | [], [] => by rw [List.map_nil, PyData.eqvAll]; rfl
  | [], d :: ds => by rw [List.map_nil, List.map_cons, PyData.eqvAll]; rfl
  | c :: cs, [] => by rw [List.map_nil, List.map_cons, PyData.eqvAll]; rfl
  | c :: cs, d :: ds => by
    rw [List.map_cons, List.map_cons, PyData.eqvAll, PyData.eqv, eqv_ints cs ds]
    by_cases e : c = d <;> simp [e]
theorem eq_lst {f : Bool → Bool} {cs ds : List Int} {h : AH} {Q : KD} (q : Q (.bl (f (decide (cs = ds)))) h) : dEq f (.lst (cs.map D.int)) (.lst (ds.map D.int)) h Q := by
  refine ⟨by show dats _ = true; exact dats_ints cs, by show dats _ = true; exact dats_ints ds, sh_lst cs, sh_lst ds, ?_⟩
  show Q (.bl (f (PyData.eqv (pd (.lst (cs.map D.int))) (pd (.lst (ds.map D.int)))))) h
  rw [pd, pd, PyData.eqv, pd_ints, pd_ints, eqv_ints]; exact q
theorem eq_nil {f : Bool → Bool} {cs : List Int} {h : AH} {Q : KD} (q : Q (.bl (f (decide (cs = [])))) h) : dEq f (.lst (cs.map D.int)) (.lst []) h Q := eq_lst (ds := []) q
/-- a statement, then the rest, over what stands between -/
theorem seq_go {s1 s2 : WS} {D0 : EndsD} {ρ : EnvD} {h : AH} (P : EnvD → AH → Prop) (h1 : ∀ K : EnvD → AH → Prop, (∀ ρ h, P ρ h → K ρ h) → s1 { D0 with nx := K } ρ h) (h2 : ∀ ρ h, P ρ h → s2 D0 ρ h) : wSeq s1 s2 D0 ρ h := h1 _ h2
theorem loop_go {st : AH → Prop} {g : WG} {tb : WS} {Z : EndsD} {xs : List D} {ρ : EnvD} {h : AH} (P : Nat → EnvD → AH → Prop) (h0 : P 0 ρ h) (hst : ∀ i ρ h, P i ρ h → st h)
    (hs : ∀ i x ρ h (K : EnvD → AH → Prop), xs[i]? = some x → P i ρ h → (∀ ρ h, P (i + 1) ρ h → K ρ h) → g x ρ h (fun ρ2 h2 => tb { Z with nx := K, ct := K, bk := Z.nx } ρ2 h2) Z.ex) (hd : ∀ ρ h, P xs.length ρ h → Z.nx ρ h) : loopD st g tb Z xs ρ h := by
  suffices H : ∀ (n i : Nat), xs.length - i = n → i ≤ xs.length → ∀ ρ h, P i ρ h → loopD st g tb Z (xs.drop i) ρ h by
    simpa using H xs.length 0 (by simp) (Nat.zero_le _) ρ h h0
  intro n
  induction n with
  | zero =>
    intro i e l ρ h p
    obtain rfl : i = xs.length := by omega
    rw [List.drop_length]
    exact ⟨hst _ _ _ p, hd _ _ p⟩
  | succ n ih =>
    intro i e l ρ h p
    have lt : i < xs.length := by omega
    rw [List.drop_eq_getElem_cons lt]
    exact ⟨hst _ _ _ p, hs i _ ρ h (loopD st g tb Z (xs.drop (i + 1))) (List.getElem?_eq_getElem lt) p fun ρ h q => ih (i + 1) (by omega) lt ρ h q⟩
/-- a comprehension: P by the turn and the heap -/
theorem comp_go {st : AH → Prop} {g : WG} {tt : WT} {te : WE} {vs : List Nat} {ρ : EnvD} {p : Addr} {xs : List D} {h : AH} {Q : AH → Prop} (P : Nat → AH → Prop) (h0 : P 0 h) (hst : ∀ i h, P i h → st h)
    (hs : ∀ i x h (K : AH → Prop), xs[i]? = some x → P i h → (∀ h, P (i + 1) h → K h) → g x (wipeD ρ vs) h (fun ρ2 h2 => tt ρ2 h2 (fun b h3 => if b = true then te ρ2 h3 (fun y h4 => ∃ acc, h4 p = some (.lst acc) ∧ acc.length < sizeLine ∧ K (up h4 p (.lst (acc ++ [y])))) (fun _ _ => False) else K h3) (fun _ _ => False)) (fun _ _ => False))
    (hd : ∀ h, P xs.length h → Q h) : compD st g tt te vs ρ p xs h Q := by
  suffices H : ∀ (n i : Nat), xs.length - i = n → i ≤ xs.length → ∀ h, P i h → compD st g tt te vs ρ p (xs.drop i) h Q by
    simpa using H xs.length 0 (by simp) (Nat.zero_le _) h h0
  intro n
  induction n with
  | zero =>
    intro i e l h p
    obtain rfl : i = xs.length := by omega
    rw [List.drop_length]
    exact ⟨hst _ _ p, hd _ p⟩
  | succ n ih =>
    intro i e l h q
    have lt : i < xs.length := by omega
    rw [List.drop_eq_getElem_cons lt]
    exact ⟨hst _ _ q, hs i _ h (fun h => compD st g tt te vs ρ p (xs.drop (i + 1)) h Q) (List.getElem?_eq_getElem lt) q fun h z => ih (i + 1) (by omega) lt h z⟩
/-- .. where the heap is as it was but for the new list, whose items come one by one: f item or none -/
theorem comp_pure {st : AH → Prop} {g : WG} {tt : WT} {te : WE} {vs : List Nat} {ρ : EnvD} {p : Addr} {xs : List D} {h : AH} {Q : AH → Prop} (f : D → Option D) (hst : ∀ acc, st (up h p (.lst acc))) (hl : xs.length ≤ sizeLine)
    (hs : ∀ x acc (K : AH → Prop), x ∈ xs → acc.length < sizeLine → K (up h p (.lst (acc ++ (f x).toList))) → g x (wipeD ρ vs) (up h p (.lst acc)) (fun ρ2 h2 => tt ρ2 h2 (fun b h3 => if b = true then te ρ2 h3 (fun y h4 => ∃ acc, h4 p = some (.lst acc) ∧ acc.length < sizeLine ∧ K (up h4 p (.lst (acc ++ [y])))) (fun _ _ => False) else K h3) (fun _ _ => False)) (fun _ _ => False))
    (hd : Q (up h p (.lst (xs.filterMap f)))) : compD st g tt te vs ρ p xs (up h p (.lst [])) Q := by
  refine comp_go (fun i h' => ∃ acc, acc = (xs.take i).filterMap f ∧ h' = up h p (.lst acc)) ⟨[], by simp, rfl⟩ (fun i h' ⟨acc, _, e⟩ => e ▸ hst acc) ?_ ?_
  · rintro i x h' K e ⟨acc, rfl, rfl⟩ k
    have li := (List.getElem?_eq_some_iff.mp e).1
    refine hs x _ K (List.mem_of_getElem? e) ?_ (k _ ⟨_, ?_, rfl⟩)
    · have := List.length_filterMap_le f (xs.take i)
      simp at this; omega
    · rw [List.take_succ, e, Option.toList_some, List.filterMap_append]
      congr 1
  · rintro h' ⟨acc, rfl, rfl⟩
    rw [List.take_length]
    exact hd
end DL
namespace DL
open PySem PySem.Spec L2 C8
/-! ### the pen: cells, where it stands, what is left of a great cell -/
def PenO (n : Int) (o : AO) : Prop := ∃ (cs : List Int) (at_ gr : Int), o = .lst [.lst (cs.map D.int), .int at_, .int gr] ∧ cs.length ≤ 63 ∧ 0 ≤ at_ ∧ at_ ≤ n ∧ 0 ≤ gr
def PenAt (n : Int) (h : AH) (p : Addr) : Prop := ∃ o, h p = some o ∧ PenO n o
theorem PenO.mono {n m : Int} {o : AO} (h : PenO n o) (l : n ≤ m) : PenO m o := by
  obtain ⟨cs, a, g, rfl, l1, l2, l3, l4⟩ := h
  exact ⟨cs, a, g, rfl, l1, l2, by omega, l4⟩
def S_draw : FSpec := fun ds h Q _ => ∃ (n : Int) (p : Addr) (m : Int), ds = [.ref p, .int m] ∧ PenAt n h p ∧ n < 1000000 ∧ DivOk m ∧ ∀ v o, 0 ≤ v → v < m → PenO (n + 1) o → Q (.int v) (up h p o)
theorem mo_draw : MoF S_draw := fun ds h Q Q' X X' hq _ ⟨n, p, m, e, e1, e2, e3, q⟩ => ⟨n, p, m, e, e1, e2, e3, fun v o h1 h2 h3 => hq _ _ (q v o h1 h2 h3)⟩
theorem len_draw : ∀ ds h Q X, S_draw ds h Q X → ds.length = 2 := fun ds h Q X ⟨n, p, m, e, _⟩ => by rw [e]; rfl
def S_pen : FSpec := fun ds h Q _ => ∃ js : List Int, ds = [.lk (js.map D.int)] ∧ ∀ p o, h p = none → PenO 0 o → Q (.ref p) (up h p o)
theorem mo_pen : MoF S_pen := fun ds h Q Q' X X' hq _ ⟨js, e, q⟩ => ⟨js, e, fun p o h1 h2 => hq _ _ (q p o h1 h2)⟩
theorem len_pen : ∀ ds h Q X, S_pen ds h Q X → ds.length = 1 := fun ds h Q X ⟨js, e, _⟩ => by rw [e]; rfl
def w_pen : WS := (wRet (wLst true (wCons (wB (dListOf false) (wCons (wSl false (wVar 0) woNone (woSome (wC (.int 63)))) wNil)) (wCons (wC (.int 0)) (wCons (wC (.int 0)) wNil)))))
theorem cut_to {α : Type} (xs : List α) (n : Nat) : cutD xs none (some (n : Int)) = xs.take n := by
  unfold cutD
  have e0 : HT.sIx xs.length 0 none = 0 := rfl
  rw [e0, List.drop_zero, Nat.sub_zero]
  rw [HT.sIx_nat]
  exact List.take_eq_take_min.symm
theorem p_pen : ∀ ds h Q X, S_pen ds h Q X → w_pen (endsD Q X) (startD 1 ds) h := by
  rintro ds h Q X ⟨js, rfl, q⟩
  show w_pen (endsD Q X) [some (.lk (js.map D.int))] h
  simp only [w_pen, u_asg, u_gN, u_ret, u_retN, u_skip, u_expr, u_ifs, u_c, u_op, u_neg, u_test, u_and, u_or, u_not, u_if, u_nil, u_cons, u_tup, u_lst, u_callP, u_call, u_b, u_chain, u_andV, u_addI, u_subI, u_mulI, u_divI, u_modI, u_powI, u_cmpI, u_eqI, u_eqS, u_eqB, u_abs, u_intI, u_intB, u_newT, u_newF, u_isN, u_notN, wVar, List.set_cons_zero, List.set_cons_succ, List.getElem?_cons_zero, List.getElem?_cons_succ, List.length_cons, List.length_nil, wSl, woNone, woSome, dSl, dListOf]
  refine ⟨_, _, rfl, rfl, (by decide : 3 ≤ sizeLine), fun p hp => fin_of (q p _ hp ⟨js.take 63, 0, 0, ?_, by simp; omega, by omega, by omega, by omega⟩)⟩
  rw [show (63 : Int) = ((63 : Nat) : Int) by rfl, cut_to, List.map_take]
def w_draw : WS := (wSeq (wIfS (wTest (wOp (dCmpI fun i j => decide (j < i)) (wOp dIx (wVar 0) (wC (.int 2))) (wC (.int 0)))) (wSeq (wAsg (wOp dMod (wOp dIx (wVar 0) (wC (.int 2))) (wVar 1)) (gN 2))
  (wSeq (wAsg (wOp dDiv (wOp dIx (wVar 0) (wC (.int 2))) (wVar 1)) (gSubL (wVar 0) (wC (.int 2))))
  (wRet (wVar 2)))) wSkip)
  (wSeq (wAsg (wOp dIx (wVar 0) (wC (.int 1))) (gN 3))
  (wSeq (wAsg (wOp (dAdd false) (wVar 3) (wC (.int 1))) (gSubL (wVar 0) (wC (.int 1))))
  (wSeq (wAsg (wOp (dAdd false) (wOp (dMul false) (wC (.int 70891)) (wVar 3)) (wC (.int 37))) (gN 4))
  (wSeq (wIfS (wTest (wOp (dEq fun b => !b) (wOp dIx (wVar 0) (wC (.int 0))) (wLst false wNil))) (wAsg (wOp dIx (wOp dIx (wVar 0) (wC (.int 0))) (wOp dMod (wVar 3) (wB dLen (wCons (wOp dIx (wVar 0) (wC (.int 0))) wNil)))) (gN 4)) wSkip)
  (wSeq (wIfS (wAnd (wTest (wOp (dCmpI fun i j => decide (i < j)) (wVar 3) (wB dLen (wCons (wOp dIx (wVar 0) (wC (.int 0))) wNil)))) (wTest (wOp (dCmpI fun i j => decide (j ≤ i)) (wB dAbs (wCons (wVar 4) wNil)) (wOp dPow (wC (.int 10)) (wC (.int 18)))))) (wSeq (wAsg (wOp (dAdd false) (wOp (dMul false) (wC (.int 2)) (wB dAbs (wCons (wVar 4) wNil))) (wB dInt (wCons (wOp (dCmpI fun i j => decide (i < j)) (wVar 4) (wC (.int 0))) wNil))) (gN 5))
  (wSeq (wAsg (wOp dDiv (wVar 5) (wVar 1)) (gSubL (wVar 0) (wC (.int 2))))
  (wRet (wOp dMod (wVar 5) (wVar 1))))) wSkip)
  (wSeq (wAsg (wOp dMod (wOp dPow (wOp (dAdd false) (wOp (dAdd false) (wOp (dAdd false) (wOp dMod (wVar 4) (wC (.int 2147483563))) (wOp (dMul false) (wOp (dMul false) (wC (.int 50147)) (wVar 3)) (wVar 3))) (wOp (dMul false) (wC (.int 30011)) (wVar 3))) (wC (.int 67))) (wC (.int 3))) (wC (.int 2147483647))) (gN 6))
  (wSeq (wAsg (wOp dMod (wOp dPow (wOp (dAdd false) (wOp (dAdd false) (wOp (dMul false) (wVar 6) (wOp (dAdd false) (wOp (dMul false) (wC (.int 2)) (wVar 3)) (wC (.int 40009)))) (wOp (dMul false) (wC (.int 17)) (wVar 3))) (wC (.int 11))) (wC (.int 5))) (wC (.int 2147483629))) (gN 6))
  (wRet (wOp dMod (wOp dDiv (wVar 6) (wC (.int 64))) (wVar 1)))))))))))
theorem atI_nat {α : Type} {xs : List α} {j : Nat} (h : j < xs.length) : atI xs (j : Int) = xs[j]? := by
  have h1 : ixN xs.length (j : Int) = some j := by
    unfold ixN
    simp; omega
  unfold atI
  rw [h1]; rfl
theorem mul_l {i j : Int} (h : -(2 ^ 64) < i ∧ i < 2 ^ 64) : MulOk i j := .inl h
theorem sq_le {a b : Int} (h0 : 0 ≤ a) (h : a ≤ b) : a * a ≤ b * b := Int.mul_le_mul h h h0 (by omega)
theorem p_draw : ∀ ds h Q X, S_draw ds h Q X → w_draw (endsD Q X) (startD 7 ds) h := by
  rintro ds h Q X ⟨n, p, m, rfl, ⟨_, hp, cs, at_, gr, rfl, l1, l2, l3, l4⟩, hn, dm, q⟩
  show w_draw (endsD Q X) [some (.ref p), some (.int m), none, none, none, none, none] h
  have hm : 0 < m := dm.1
  unfold w_draw
  rw [u_seq]
  simp only [u_asg, u_gN, u_ret, u_retN, u_skip, u_expr, u_ifs, u_c, u_op, u_neg, u_test, u_and, u_or, u_not, u_if, u_nil, u_cons, u_tup, u_lst, u_callP, u_call, u_b, u_chain, u_andV, u_addI, u_subI, u_mulI, u_divI, u_modI, u_powI, u_cmpI, u_eqI, u_eqS, u_eqB, u_abs, u_intI, u_intB, u_newT, u_newF, u_isN, u_notN, wVar, List.set_cons_zero, List.set_cons_succ, List.getElem?_cons_zero, List.getElem?_cons_succ, List.length_cons, List.length_nil, u_ixRd hp at2]
  by_cases c : 0 < gr
  · simp only [decide_eq_true c, if_true, u_seq, u_asg, u_gN, u_ret, u_retN, u_skip, u_expr, u_ifs, u_c, u_op, u_neg, u_test, u_and, u_or, u_not, u_if, u_nil, u_cons, u_tup, u_lst, u_callP, u_call, u_b, u_chain, u_andV, u_addI, u_subI, u_mulI, u_divI, u_modI, u_powI, u_cmpI, u_eqI, u_eqS, u_eqB, u_abs, u_intI, u_intB, u_newT, u_newF, u_isN, u_notN, wVar, List.set_cons_zero, List.set_cons_succ, List.getElem?_cons_zero, List.getElem?_cons_succ, List.length_cons, List.length_nil, u_ixRd hp at2, gSubL]
    refine ⟨hm, dm, p, _, 2, 2, rfl, rfl, hp, rfl, fin_of (q _ _ (Int.emod_nonneg _ (by omega)) (Int.emod_lt_of_pos _ hm) ⟨cs, at_, gr / m, rfl, l1, l2, by omega, Int.ediv_nonneg l4 (by omega)⟩)⟩
  simp only [decide_eq_false c, Bool.false_eq_true, if_false]
  rw [u_seq]
  simp only [u_asg, u_gN, u_ret, u_retN, u_skip, u_expr, u_ifs, u_c, u_op, u_neg, u_test, u_and, u_or, u_not, u_if, u_nil, u_cons, u_tup, u_lst, u_callP, u_call, u_b, u_chain, u_andV, u_addI, u_subI, u_mulI, u_divI, u_modI, u_powI, u_cmpI, u_eqI, u_eqS, u_eqB, u_abs, u_intI, u_intB, u_newT, u_newF, u_isN, u_notN, wVar, List.set_cons_zero, List.set_cons_succ, List.getElem?_cons_zero, List.getElem?_cons_succ, List.length_cons, List.length_nil, u_ixRd hp at1]
  rw [u_seq]
  simp only [u_asg, u_gN, u_ret, u_retN, u_skip, u_expr, u_ifs, u_c, u_op, u_neg, u_test, u_and, u_or, u_not, u_if, u_nil, u_cons, u_tup, u_lst, u_callP, u_call, u_b, u_chain, u_andV, u_addI, u_subI, u_mulI, u_divI, u_modI, u_powI, u_cmpI, u_eqI, u_eqS, u_eqB, u_abs, u_intI, u_intB, u_newT, u_newF, u_isN, u_notN, wVar, List.set_cons_zero, List.set_cons_succ, List.getElem?_cons_zero, List.getElem?_cons_succ, List.length_cons, List.length_nil, gSubL]
  refine ⟨p, _, 1, 1, rfl, rfl, hp, rfl, ?_⟩
  have e1 : ([D.lst (cs.map D.int), D.int at_, D.int gr].set 1 (D.int (at_ + 1))) = [D.lst (cs.map D.int), D.int (at_ + 1), D.int gr] := rfl
  rw [e1]
  have ug : ∀ o, up (up h p (.lst [D.lst (cs.map D.int), D.int (at_ + 1), D.int gr])) p o = up h p o := fun o => up_up
  have gp : (up h p (.lst [D.lst (cs.map D.int), D.int (at_ + 1), D.int gr])) p = some (.lst [D.lst (cs.map D.int), D.int (at_ + 1), D.int gr]) := up_same
  have fin0 : ∀ v, 0 ≤ v → v < m → Q (.int v) (up h p (.lst [D.lst (cs.map D.int), D.int (at_ + 1), D.int gr])) := fun v h1 h2 => q v _ h1 h2 ⟨cs, at_ + 1, gr, rfl, l1, by omega, by omega, l4⟩
  have fin1 : ∀ v g, 0 ≤ v → v < m → 0 ≤ g → Q (.int v) (up h p (.lst [D.lst (cs.map D.int), D.int (at_ + 1), D.int g])) := fun v g h1 h2 h3 => q v _ h1 h2 ⟨cs, at_ + 1, g, rfl, l1, by omega, by omega, h3⟩
  generalize hg : up h p (.lst [D.lst (cs.map D.int), D.int (at_ + 1), D.int gr]) = g at gp ug fin0 ⊢
  rw [u_seq]
  simp only [u_asg, u_gN, u_ret, u_retN, u_skip, u_expr, u_ifs, u_c, u_op, u_neg, u_test, u_and, u_or, u_not, u_if, u_nil, u_cons, u_tup, u_lst, u_callP, u_call, u_b, u_chain, u_andV, u_addI, u_subI, u_mulI, u_divI, u_modI, u_powI, u_cmpI, u_eqI, u_eqS, u_eqB, u_abs, u_intI, u_intB, u_newT, u_newF, u_isN, u_notN, wVar, List.set_cons_zero, List.set_cons_succ, List.getElem?_cons_zero, List.getElem?_cons_succ, List.length_cons, List.length_nil]
  refine ⟨mul_l (by decide), ?_⟩
  -- the cell
  refine seq_go (fun ρ h => g = h ∧ ∃ c : Int, ρ = [some (.ref p), some (.int m), none, some (.int at_), some (.int c), none, none]) (fun K k => ?_) ?_
  · simp only [u_asg, u_gN, u_ret, u_retN, u_skip, u_expr, u_ifs, u_c, u_op, u_neg, u_test, u_and, u_or, u_not, u_if, u_nil, u_cons, u_tup, u_lst, u_callP, u_call, u_b, u_chain, u_andV, u_addI, u_subI, u_mulI, u_divI, u_modI, u_powI, u_cmpI, u_eqI, u_eqS, u_eqB, u_abs, u_intI, u_intB, u_newT, u_newF, u_isN, u_notN, wVar, List.set_cons_zero, List.set_cons_succ, List.getElem?_cons_zero, List.getElem?_cons_succ, List.length_cons, List.length_nil, u_ixRd gp at0]
    refine ⟨Nat.zero_le _, eq_nil ?_⟩
    by_cases z : cs = []
    · rw [decide_eq_true z]
      exact k _ _ ⟨rfl, _, rfl⟩
    rw [decide_eq_false z]
    simp only [Bool.not_false, if_true, u_ixRd gp at0, u_lenL, u_modI, u_ixL]
    have lc : 0 < cs.length := List.length_pos_iff.mpr z
    have lp : (0 : Int) < ((cs.map D.int).length : Nat) := by rw [List.length_map]; omega
    refine ⟨lp, ?_⟩
    have a0 := Int.emod_nonneg at_ (show (((cs.map D.int).length : Nat) : Int) ≠ 0 by omega)
    have a1 := Int.emod_lt_of_pos at_ lp
    obtain ⟨j, ej⟩ := Int.eq_ofNat_of_zero_le a0
    rw [ej] at a1 ⊢
    rw [List.length_map] at a1
    have lj : j < cs.length := by omega
    refine ⟨.int cs[j], ?_, k _ _ ⟨rfl, _, rfl⟩⟩
    rw [atI_nat (by rw [List.length_map]; exact lj), List.getElem?_map, List.getElem?_eq_getElem lj]
    rfl
  rintro _ _ ⟨rfl, c, rfl⟩
  refine seq_go (fun ρ h => g = h ∧ ρ = [some (.ref p), some (.int m), none, some (.int at_), some (.int c), none, none]) (fun K k => ?_) ?_
  · simp only [u_asg, u_gN, u_ret, u_retN, u_skip, u_expr, u_ifs, u_c, u_op, u_neg, u_test, u_and, u_or, u_not, u_if, u_nil, u_cons, u_tup, u_lst, u_callP, u_call, u_b, u_chain, u_andV, u_addI, u_subI, u_mulI, u_divI, u_modI, u_powI, u_cmpI, u_eqI, u_eqS, u_eqB, u_abs, u_intI, u_intB, u_newT, u_newF, u_isN, u_notN, wVar, List.set_cons_zero, List.set_cons_succ, List.getElem?_cons_zero, List.getElem?_cons_succ, List.length_cons, List.length_nil, u_ixRd gp at0, u_lenL]
    have k := k _ _ ⟨rfl, rfl⟩
    by_cases z : at_ < ((cs.map D.int).length : Nat)
    · rw [decide_eq_true z]
      simp only [if_true]
      refine ⟨by refine ⟨by decide, by decide, by decide⟩, ?_⟩
      by_cases y : (10 ^ Int.toNat 18 : Int) ≤ if c < 0 then -c else c
      · rw [if_pos (decide_eq_true y)]
        simp only [u_seq, u_asg, u_gN, u_ret, u_retN, u_skip, u_expr, u_ifs, u_c, u_op, u_neg, u_test, u_and, u_or, u_not, u_if, u_nil, u_cons, u_tup, u_lst, u_callP, u_call, u_b, u_chain, u_andV, u_addI, u_subI, u_mulI, u_divI, u_modI, u_powI, u_cmpI, u_eqI, u_eqS, u_eqB, u_abs, u_intI, u_intB, u_newT, u_newF, u_isN, u_notN, wVar, List.set_cons_zero, List.set_cons_succ, List.getElem?_cons_zero, List.getElem?_cons_succ, List.length_cons, List.length_nil, gSubL]
        have nn : 0 ≤ 2 * (if c < 0 then -c else c) + (if decide (c < 0) = true then 1 else 0) := by split <;> split <;> omega
        refine ⟨mul_l (by decide), dm, p, _, 2, 2, rfl, rfl, gp, rfl, hm, fin_of ?_⟩
        rw [ug]
        exact fin1 _ _ (Int.emod_nonneg _ (by omega)) (Int.emod_lt_of_pos _ hm) (Int.ediv_nonneg nn (by omega))
      · rw [if_neg (by rw [decide_eq_false y]; decide)]
        exact k
    · rw [decide_eq_false z]
      exact k
  rintro _ _ ⟨rfl, rfl⟩
  simp only [u_seq, u_asg, u_gN, u_ret, u_retN, u_skip, u_expr, u_ifs, u_c, u_op, u_neg, u_test, u_and, u_or, u_not, u_if, u_nil, u_cons, u_tup, u_lst, u_callP, u_call, u_b, u_chain, u_andV, u_addI, u_subI, u_mulI, u_divI, u_modI, u_powI, u_cmpI, u_eqI, u_eqS, u_eqB, u_abs, u_intI, u_intB, u_newT, u_newF, u_isN, u_notN, wVar, List.set_cons_zero, List.set_cons_succ, List.getElem?_cons_zero, List.getElem?_cons_succ, List.length_cons, List.length_nil]
  have b1 : 0 ≤ c % 2147483563 := Int.emod_nonneg _ (by decide)
  have b2 : c % 2147483563 < 2147483563 := Int.emod_lt_of_pos _ (by decide)
  have b3 : at_ ≤ 1000000 := by omega
  have b4 : 50147 * at_ * at_ ≤ 50147 * 1000000000000 := by
    rw [Int.mul_assoc]
    have := sq_le l2 b3
    omega
  have b5 : 0 ≤ 50147 * at_ * at_ := Int.mul_nonneg (by omega) l2
  generalize e5 : 50147 * at_ * at_ = t at b4 b5 ⊢
  generalize e6 : (c % 2147483563 + t + 30011 * at_ + 67) = u
  have b6 : 0 ≤ u ∧ u < 2 ^ 63 := by omega
  generalize e7 : u ^ Int.toNat 3 % 2147483647 = v
  have b7 : 0 ≤ v ∧ v < 2147483647 := by rw [← e7]; exact ⟨Int.emod_nonneg _ (by decide), Int.emod_lt_of_pos _ (by decide)⟩
  have b8 : v * (2 * at_ + 40009) ≤ 2147483647 * (2 * 1000000 + 40009) := Int.mul_le_mul (by omega) (by omega) (by omega) (by omega)
  have b9 : 0 ≤ v * (2 * at_ + 40009) := Int.mul_nonneg b7.1 (by omega)
  refine ⟨by decide, mul_l (by decide), mul_l (by omega), mul_l (by decide), ⟨by decide, by decide, by omega⟩, by decide, mul_l (by decide), mul_l (by omega), mul_l (by decide), ⟨by decide, by decide, by omega⟩, by decide, ⟨by decide, .inl (by decide)⟩, hm, fin_of (fin0 _ (Int.emod_nonneg _ (by omega)) (Int.emod_lt_of_pos _ hm))⟩
end DL
namespace DL
open PySem PySem.Spec L2 C8
section
variable {ρ : EnvD} {h : AH} {Q : KD} {X : KX} {D0 : EndsD} {xs : List D} {p q : Addr} {o u : AO}
theorem endF (hp : h p = none) (k : Q (.lst xs) h) : endL false p Q (up h p (.lst xs)) := ⟨xs, up_same, by rw [rm_up, rm_none hp]; exact k⟩
theorem u_lc {m : Bool} {wi : WI} {g : WG} {tt : WT} {te : WE} {vs : List Nat} : wLc m wi g tt te vs ρ h Q X = wi ρ h (fun xs st h1 => ∀ p, h1 p = none → compD st g tt te vs ρ p xs (up h1 p (.lst [])) (endL m p Q)) X := rfl
theorem u_for {wi : WI} {g : WG} {tb : WS} : wFor wi g tb D0 ρ h = wi ρ h (fun xs st h1 => loopD st g tb D0 xs ρ h1) D0.ex := rfl
theorem u_r1 {l : WA} {R : List D → (AH → Prop) → AH → Prop} : iRng1 l ρ h R X = l ρ h (fun ds h1 => match ds with
  | [.int j] => -(2 ^ 62) ≤ j ∧ j < 2 ^ 62 ∧ R (intsD 0 j.toNat) (fun _ => True) h1
  | _ => False) X := rfl
theorem u_r2 {l : WA} {R : List D → (AH → Prop) → AH → Prop} : iRng2 l ρ h R X = l ρ h (fun ds h1 => match ds with
  | [.int i, .int j] => (-(2 ^ 62) ≤ i ∧ i < 2 ^ 62 ∧ -(2 ^ 62) ≤ j ∧ j < 2 ^ 62) ∧ R (intsD i (j - i).toNat) (fun _ => True) h1
  | _ => False) X := rfl
theorem u_r3 {l : WA} {R : List D → (AH → Prop) → AH → Prop} : iRng3 l ρ h R X = l ρ h (fun ds h1 => match ds with
  | [.int i, .int j, .int c] => ∃ n, RgC i j c n ∧ R (stepD i c n) (fun _ => True) h1
  | _ => False) X := rfl
theorem u_seqi {a : WE} {R : List D → (AH → Prop) → AH → Prop} : iSeq a ρ h R X = a ρ h (fun x h1 => match x with
  | .lst xs => R xs (fun _ => True) h1
  | .ref a => ∃ xs, h1 a = some (.lst xs) ∧ R xs (fun h => h a = some (.lst xs)) h1
  | _ => False) X := rfl
theorem u_tupi {a : WE} {R : List D → (AH → Prop) → AH → Prop} : iTupD a ρ h R X = a ρ h (fun x h1 => match x with
  | .tup xs => R xs (fun _ => True) h1
  | .tpl xs => R xs (fun _ => True) h1
  | _ => False) X := rfl
theorem u_num {l : WA} {R : List D → (AH → Prop) → AH → Prop} : iNum l ρ h R X = l ρ h (fun ds h1 => match ds with
  | [.tup xs] => R (numD xs) (fun _ => True) h1
  | _ => False) X := rfl
theorem u_notV {a : WE} : wNotV a ρ h Q X = a ρ h (fun x h1 => match x with
  | .bl b => Q (.bl (!b)) h1
  | _ => False) X := rfl
theorem u_yes {Q : Bool → AH → Prop} : wYes ρ h Q X = Q true h := rfl
theorem u_w0 : wipeD ρ [] = ρ := rfl
theorem u_w1 {v : Nat} {vs : List Nat} : wipeD ρ (v :: vs) = (wipeD ρ vs).set v none := rfl
end
theorem at_nth {es : List Int} {k : Nat} (h : k < es.length) : atI (es.map D.int) (k : Int) = some (.int (es.getD k 0)) := by
  rw [atI_nat (by rw [List.length_map]; exact h), List.getElem?_map, List.getElem?_eq_getElem h, List.getD_eq_getElem?_getD, List.getElem?_eq_getElem h]
  rfl
/-! ### how long a repr is -/
theorem txt_len (ts : List Str) : ∀ (k : Nat) (acc : Str), (textFrom k acc ts).length ≤ acc.length + (ts.map fun t => t.length + 2).sum := by
  induction ts with
  | nil => intro k acc; exact Nat.le_add_right _ _
  | cons t ts ih =>
    intro k acc
    have h := ih (k + 1) (acc ++ (if k > 0 then ", " else "" : String) ++ t)
    rw [Str.length_append, Str.length_append] at h
    have l2 : ((if k > 0 then ", " else "" : String) : Str).length ≤ 2 := by split <;> decide
    show (textFrom (k + 1) _ ts).length ≤ _
    rw [List.map_cons, List.sum_cons]
    omega
theorem lst_len (ts : List Str) : (listText ts).length ≤ 2 + (ts.map fun t => t.length + 2).sum := by
  have h := txt_len ts 0 "["
  unfold listText
  rw [Str.length_append]
  have l1 : (("[" : String) : Str).length = 1 := by decide
  have l2 : (("]" : String) : Str).length = 1 := by decide
  omega
theorem tup_len (ts : List Str) : (tupleText ts).length ≤ 3 + (ts.map fun t => t.length + 2).sum := by
  unfold tupleText
  rw [Str.length_append, Str.length_append]
  have l1 : (("(" : String) : Str).length = 1 := by decide
  have l2 : ((if ts.length == 1 then ",)" else ")" : String) : Str).length ≤ 2 := by split <;> decide
  by_cases e : ts = []
  · subst e
    have l3 : (Str.join ", " ([] : List Str)).length = 0 := by decide
    simp at l2 ⊢
    omega
  · have l3 := join_length_add ts e
    unfold piled at l3
    omega
theorem lg_lt {n k : Nat} (h : n < 2 ^ k) (hk : 0 < k) : n.log2 < k := by
  by_cases e : n = 0
  · subst e; exact hk
  · exact (Nat.log2_lt e).mpr h
theorem int_len {i : Int} {k : Nat} (hk : 0 < k) (h : i.natAbs < 2 ^ k) : (PyData.int i).shown.length ≤ k + 1 := by
  rw [PyData.shown]
  have e := int_text_length_le (a := i) hk (lg_lt h hk)
  show (Str.ofString (toString i)).length ≤ k + 1
  rw [ofString_length]; exact e
theorem seqi_go {ρ : EnvD} {h : AH} {X : KX} {c : Nat} {x : D} {xs : List D} {R : List D → (AH → Prop) → AH → Prop} (e : ρ[c]? = some (some x)) (hx : lstOf h x = some xs) (k : ∀ st : AH → Prop, (∀ g, Sub h g → st g) → R xs st h) : iSeq (wVar c) ρ h R X := by
  rw [u_seqi, u_var e]
  cases x with
  | lst ys =>
    obtain rfl : ys = xs := Option.some.inj hx
    exact k _ fun _ _ => trivial
  | ref a =>
    dsimp only
    unfold lstOf at hx
    dsimp only at hx
    cases q : h a with
    | none => rw [q] at hx; cases hx
    | some o =>
      rw [q] at hx
      cases o with
      | lst ys =>
        obtain rfl : ys = xs := Option.some.inj hx
        exact ⟨_, rfl, k _ fun g s => s _ _ q⟩
      | _ => cases hx
  | _ => cases hx
end DL
namespace DL
open PySem PySem.Spec L2 C8
/-! ### repr of rows of small things -/
structure Rp (x : D) (k n : Nat) : Prop where
  da : dat x = true
  sh : (pd x).showable = true
  de : (pd x).depth ≤ k
  le : (pd x).shown.length ≤ n
theorem rp_int {i : Int} {j : Nat} (hj : 0 < j) (hj2 : j ≤ 1900) (h : i.natAbs < 2 ^ j) : Rp (.int i) 0 (j + 1) :=
  ⟨rfl, by rw [pd, PyData.showable]; exact decide_eq_true (Nat.lt_of_lt_of_le (lg_lt h hj) (Nat.le_trans hj2 (by decide))), by rw [pd, PyData.depth]; exact Nat.le_refl _, by rw [pd]; exact int_len hj h⟩
end DL
namespace DL
open PySem PySem.Spec L2 C8
/-! ### the heap while a pen is drawn from: what stood in h0 stands, the pen apart -/
structure Inv0 (h0 : AH) (p : Addr) (m : Int) (h : AH) : Prop where
  pen : PenAt m h p
  old : ∀ b o, h0 b = some o → b ≠ p → h b = some o
  isp : ∃ o, h0 p = some o
section
variable {h0 h : AH} {p q : Addr} {m n : Int} {o : AO} {Q : KD} {X : KX}
theorem Inv0.start (e : PenAt m h p) : Inv0 h p m h := ⟨e, fun _ _ e _ => e, let ⟨o, e, _⟩ := e; ⟨o, e⟩⟩
theorem Inv0.mono (I : Inv0 h0 p m h) (l : m ≤ n) : Inv0 h0 p n h := ⟨let ⟨o, e, r⟩ := I.pen; ⟨o, e, r.mono l⟩, I.old, I.isp⟩
theorem Inv0.draw (I : Inv0 h0 p m h) (r : PenO n o) : Inv0 h0 p n (up h p o) := ⟨⟨o, up_same, r⟩, fun b u e c => by rw [up_ne c]; exact I.old b u e c, I.isp⟩
theorem Inv0.fresh (I : Inv0 h0 p m h) (e : h q = none) : h0 q = none ∧ q ≠ p := by
  obtain ⟨u, eu, _⟩ := I.pen
  have c : q ≠ p := by rintro rfl; rw [e] at eu; cases eu
  refine ⟨?_, c⟩
  cases z : h0 q with
  | none => rfl
  | some w => rw [I.old _ _ z c] at e; cases e
theorem Inv0.put (I : Inv0 h0 p m h) (e : h0 q = none) : Inv0 h0 p m (up h q o) := by
  have c : q ≠ p := by rintro rfl; obtain ⟨u, z⟩ := I.isp; rw [e] at z; cases z
  obtain ⟨u, eu, r⟩ := I.pen
  exact ⟨⟨u, by rw [up_ne c.symm]; exact eu, r⟩, fun b w z d => by rw [up_ne (by rintro rfl; rw [e] at z; cases z)]; exact I.old b w z d, I.isp⟩
theorem Inv0.new (I : Inv0 h0 p m h) (e : h q = none) : Inv0 h0 p m (up h q o) := I.put (I.fresh e).1
theorem Inv0.sub (I : Inv0 h0 p m h) : ∃ o, PenO m o ∧ Sub (up h0 p o) h := by
  obtain ⟨u, eu, r⟩ := I.pen
  refine ⟨u, r, fun b w z => ?_⟩
  by_cases c : b = p
  · subst c; rw [up_same] at z; cases z; exact eu
  · rw [up_ne c] at z; exact I.old _ _ z c
theorem draw_go {c : Int} (I : Inv0 h0 p m h) (lm : m < 1000000) (dc : DivOk c) (k : ∀ v o, 0 ≤ v → v < c → Inv0 h0 p (m + 1) (up h p o) → (∀ q, q ≠ p → up h p o q = h q) → Q (.int v) (up h p o)) : S_draw [.ref p, .int c] h Q X :=
  ⟨m, p, c, rfl, I.pen, lm, dc, fun v o h1 h2 r => k v o h1 h2 (I.draw r) fun q hq => up_ne hq⟩
end
theorem div_ok {c : Int} (h : 0 < c) (h2 : c < 1073741824) : DivOk c := ⟨h, .inl h2⟩
/-! ### dicts of ints -/
def toK (es : List (Int × Int)) : List (Key × D) := es.map fun e => ((Sum.inl e.1 : Key), D.int e.2)
theorem put_ints (es : List (Int × Int)) (a w : Int) : ∃ fs, putD (toK es) (Sum.inl a) (.int w) = toK fs ∧ fs.length ≤ es.length + 1 ∧ ∀ f ∈ fs, f ∈ es ∨ (f = (a, w)) := by
  unfold putD
  split
  · refine ⟨es.map fun e => if e.1 = a then (e.1, w) else e, ?_, by simp, ?_⟩
    · unfold toK
      rw [List.map_map, List.map_map]
      apply List.map_congr_left
      intro e _
      show (if (Sum.inl e.1 : Key) = Sum.inl a then ((Sum.inl e.1 : Key), D.int w) else (Sum.inl e.1, D.int e.2)) = _
      by_cases c : e.1 = a
      · rw [if_pos (by rw [c])]
        show _ = ((Sum.inl (if e.1 = a then (e.1, w) else e).1 : Key), D.int (if e.1 = a then (e.1, w) else e).2)
        rw [if_pos c]
      · rw [if_neg (by intro z; exact c (Sum.inl.inj z))]
        show _ = ((Sum.inl (if e.1 = a then (e.1, w) else e).1 : Key), D.int (if e.1 = a then (e.1, w) else e).2)
        rw [if_neg c]
    · intro f hf
      obtain ⟨e, he, rfl⟩ := List.mem_map.mp hf
      by_cases c : e.1 = a
      · right; simp [c]
      · left; simpa [c] using he
  · refine ⟨es ++ [(a, w)], by simp [toK], by simp, fun f hf => ?_⟩
    rcases List.mem_append.mp hf with h | h
    · exact .inl h
    · exact .inr (by simpa using h)
theorem lst_ref {h : AH} {a : Addr} {xs : List D} (e : h a = some (.lst xs)) : lstOf h (.ref a) = some xs := by
  simp [lstOf, e]
theorem seq_ref {h : AH} {a : Addr} {xs : List D} (e : h a = some (.lst xs)) : seqOf h (.ref a) = some xs := by
  simp [seqOf, lstOf, e]
/-- one of three -/
theorem at_three {x y z : Int} {v : Int} {h : AH} {Q : KD} (h0 : 0 ≤ v) (h3 : v < 3) (q : ∀ u, u = x ∨ u = y ∨ u = z → Q (.int u) h) : dIx (.lst [.int x, .int y, .int z]) (.int v) h Q := by
  have : v = 0 ∨ v = 1 ∨ v = 2 := by omega
  rcases this with rfl | rfl | rfl
  · exact ⟨_, _, rfl, at0, q _ (.inl rfl)⟩
  · exact ⟨_, _, rfl, at1, q _ (.inr (.inl rfl))⟩
  · exact ⟨_, _, rfl, at2, q _ (.inr (.inr rfl))⟩
/-- one of a list of ints -/
theorem at_some {es : List Int} {v : Int} {h : AH} {Q : KD} (h0 : 0 ≤ v) (h1 : v < es.length) (q : ∀ u ∈ es, Q (.int u) h) : dIx (.lst (es.map D.int)) (.int v) h Q := by
  obtain ⟨k, rfl⟩ := Int.eq_ofNat_of_zero_le h0
  have lk : k < es.length := by omega
  refine ⟨_, _, rfl, at_nth lk, q _ ?_⟩
  rw [List.getD_eq_getElem?_getD, List.getElem?_eq_getElem lk]
  exact List.getElem_mem lk
end DL
namespace DL
open PySem PySem.Spec L2 C8
/-! ### defaults of keyword-only parameters -/
/-- parameters' values: picked, or the default -/
def pickE (ix : List (Nat ⊕ D)) (ds zs : List D) : List D := ix.map fun i => match i with
  | .inl i => ((ds ++ zs)[i]?).getD .non
  | .inr d => d
/-- one keyword-only parameter m that lacks: its default u stands in the def's dict -/
theorem Bnd.dflt {K : PySem.W.Frag} {fd : FuncData} {ps : List Str} {n : Nat} {ks : List Str} {Dk : Addr} {m : Str} {u : Value} {v : V} {d : D} (ix : List (Nat ⊕ D)) (jx : List (Option Nat))
    (hu : PySem.W.nsIn K Dk m = some (some u)) (rv : RelV v u) (rd : ∀ F, Rep K F d v)
    (hj : ix = jx.map fun j => match j with | some i => .inl i | none => .inr d) (hb : (jx.all fun j => match j with | some i => decide (i < n + ks.length) | none => true) = true)
    (h : ∀ us ws : List Value, us.length = n → ws.length = ks.length → KwChain Dk [(m, u)] (bindArgs fd ⟨us, ks.zip ws⟩) (ps.zip (jx.map fun j => match j with | some i => ((us ++ ws)[i]?).getD .none | none => u))) : Bnd K fd ps n ks (pickE ix) := by
  subst hj
  have hi : ∀ i, some i ∈ jx → i < n + ks.length := fun i h => of_decide_eq_true (List.all_eq_true.mp hb _ h)
  clear hb
  refine ⟨fun s F ds zs vs ys us ws X l1 l2 r1 r2 r3 r4 => ⟨jx.map fun j => match j with | some i => ((vs ++ ys)[i]?).getD .non | none => v, jx.map fun j => match j with | some i => ((us ++ ws)[i]?).getD .none | none => u, ?_, ?_,
    BindsTo.of_looks fun M => KwChain.looks X (fun q hq => by
      obtain rfl : q = (m, u) := by simpa using hq
      exact hu) (h us ws (by rw [← r2.length, ← r1.length]; exact l1) (by rw [← r4.length, ← r3.length]; exact l2))⟩⟩
  · have r := r1.append r3
    have l : (ds ++ zs).length = n + ks.length := by simp [l1, l2]
    clear h
    unfold pickE
    rw [List.map_map]
    induction jx with
    | nil => exact .nil
    | cons j jx ih =>
      refine .cons ?_ (ih fun i hi2 => hi i (List.mem_cons_of_mem _ hi2))
      cases j with
      | none => exact rd F
      | some i =>
        have li : i < (ds ++ zs).length := by rw [l]; exact hi i (List.mem_cons_self ..)
        obtain ⟨w, hw, rw_⟩ := r.get (List.getElem?_eq_getElem li)
        show Rep K F (((ds ++ zs)[i]?).getD .non) (((vs ++ ys)[i]?).getD .non)
        simp only [hw, List.getElem?_eq_getElem li]
        exact rw_
  · have r := r2.append r4
    have l : (vs ++ ys).length = n + ks.length := by simp [← r1.length, ← r3.length, l1, l2]
    clear h
    induction jx with
    | nil => exact .nil
    | cons j jx ih =>
      refine .cons ?_ (ih fun i hi2 => hi i (List.mem_cons_of_mem _ hi2))
      cases j with
      | none => exact rv
      | some i =>
        have li : i < (vs ++ ys).length := by rw [l]; exact hi i (List.mem_cons_self ..)
        obtain ⟨w, hw, rw_⟩ := r.get (List.getElem?_eq_getElem li)
        show RelV (((vs ++ ys)[i]?).getD .non) (((us ++ ws)[i]?).getD .none)
        simp only [hw, List.getElem?_eq_getElem li]
        exact rw_
end DL
namespace DL
open PySem PySem.Spec L2 C8
/-! ### == of data that hold no text -/
structure Fl (x : D) (k : Nat) : Prop where
  da : dat x = true
  cl : (pd x).canLay0 = true
  de : (pd x).depth ≤ k
theorem fl_int (i : Int) : Fl (.int i) 0 := ⟨rfl, by rw [pd, PyData.canLay0], by rw [pd, PyData.depth]; exact Nat.le_refl _⟩
theorem fls {k : Nat} : ∀ {xs : List D}, (∀ x ∈ xs, Fl x k) → dats xs = true ∧ PyData.canLayAll0 (pds xs) = true ∧ PyData.depthAll (pds xs) ≤ k
  | [], _ => ⟨rfl, by rw [pds, PyData.canLayAll0], by rw [pds, PyData.depthAll]; exact Nat.zero_le _⟩
  | x :: xs, h => by
    obtain ⟨h1, h2, h3⟩ := fls fun y hy => h y (List.mem_cons_of_mem _ hy)
    have r := h x (List.mem_cons_self ..)
    exact ⟨by rw [dats, r.da, h1]; rfl, by rw [pds, PyData.canLayAll0, r.cl, h2]; rfl, by rw [pds, PyData.depthAll]; exact Nat.max_le.mpr ⟨r.de, h3⟩⟩
theorem fl_lst {k : Nat} {xs : List D} (h : ∀ x ∈ xs, Fl x k) : Fl (.lst xs) (k + 1) := by
  obtain ⟨h1, h2, h3⟩ := fls h
  exact ⟨h1, by rw [pd, PyData.canLay0]; exact h2, by rw [pd, PyData.depth]; omega⟩
theorem fl_tup {k : Nat} {xs : List D} (h : ∀ x ∈ xs, Fl x k) : Fl (.tup xs) (k + 1) := by
  obtain ⟨h1, h2, h3⟩ := fls h
  exact ⟨h1, by rw [pd, PyData.canLay0]; exact h2, by rw [pd, PyData.depth]; omega⟩
theorem Fl.sh {x : D} {k : Nat} (r : Fl x k) (hk : k ≤ 64) : SeqAt.shaped (pd x) = true := by
  unfold SeqAt.shaped
  rw [r.cl, decide_eq_true (Nat.le_trans r.de hk)]; rfl
theorem Fl.eqv {x : D} {k : Nat} (r : Fl x k) : PyData.eqv (pd x) (pd x) = true := SeqAt.eqv_refl _ r.cl
theorem fl_pair (e : Int × Int) : Fl (pairD e) 1 := fl_tup fun x hx => by
  have : x = .int e.1 ∨ x = .int e.2 := by simpa using hx
  rcases this with rfl | rfl <;> exact fl_int _
theorem fl_pairs (es : List (Int × Int)) : ∀ x ∈ es.map pairD, Fl x 1 := fun x hx => by
  obtain ⟨e, _, rfl⟩ := List.mem_map.mp hx
  exact fl_pair e
section
variable {f : Bool → Bool} {xs ys : List D} {h : AH} {Q : KD} {k l : Nat} {a : Addr}
theorem same_tup (r : Fl (.tup xs) k) (hk : k ≤ 64) (q : Q (.bl (f true)) h) : dEq f (.tup xs) (.tup xs) h Q :=
  ⟨r.da, r.da, r.sh hk, r.sh hk, by show Q (.bl (f (PyData.eqv (pd (.tup xs)) (pd (.tup xs))))) h; rw [r.eqv]; exact q⟩
theorem same_lst (r : Fl (.lst xs) k) (hk : k ≤ 64) (q : Q (.bl (f true)) h) : dEq f (.lst xs) (.lst xs) h Q :=
  ⟨r.da, r.da, r.sh hk, r.sh hk, by show Q (.bl (f (PyData.eqv (pd (.lst xs)) (pd (.lst xs))))) h; rw [r.eqv]; exact q⟩
end
end DL
namespace DL
open PySem PySem.Spec L2 C8
/-! ### attributes -/
def insOf (h : AH) : D → Option (Addr × List (Str × D))
  | .ob C fs => some (C, fs)
  | .ref a => match h a with
    | some (.ins C fs) => some (C, fs)
    | _ => none
  | _ => none
def putFD (f : Str) (d : D) : List (Str × D) → List (Str × D)
  | [] => [(f, d)]
  | (g, x) :: r => if g = f then (g, d) :: r else (g, x) :: putFD f d r
section
variable {K : PySem.W.Frag} {F : Hp} {h : AH} {H : Hp}
theorem RepF.look : ∀ {fs : List (Str × D)} {vs : List (Str × V)} {f : Str} {d : D}, RepF K F fs vs → fs.lookup f = some d → ∃ v, vs.lookup f = some v ∧ Rep K F d v
  | _, _, f, d, .nil, e => by simp at e
  | _, _, f, d, @RepF.cons _ _ k x v xs vs r t, e => by
    cases c : f == k with
    | true =>
      simp only [List.lookup_cons, c] at e ⊢
      cases e
      exact ⟨v, rfl, r⟩
    | false =>
      simp only [List.lookup_cons, c] at e ⊢
      exact RepF.look t e
theorem RepF.put {f : Str} {d : D} {v : V} (r : Rep K F d v) : ∀ {fs : List (Str × D)} {vs : List (Str × V)}, RepF K F fs vs → RepF K F (putFD f d fs) (putF f v vs)
  | _, _, .nil => .cons r .nil
  | _, _, @RepF.cons _ _ k x u xs us q t => by
    show RepF K F (if k = f then (k, d) :: xs else (k, x) :: putFD f d xs) (if k = f then (k, v) :: us else (k, u) :: putF f v us)
    by_cases c : k = f
    · rw [if_pos c, if_pos c]; exact .cons r t
    · rw [if_neg c, if_neg c]; exact .cons q (RepF.put r t)
theorem RepF.length : ∀ {fs : List (Str × D)} {vs : List (Str × V)}, RepF K F fs vs → fs.length = vs.length
  | _, _, .nil => rfl
  | _, _, .cons _ t => by simp [RepF.length t]
theorem Sim.insOf {d : D} {v : V} {C : Addr} {fs : List (Str × D)} (S : Sim K F h H) (r : Rep K F d v) (e : DL.insOf h d = some (C, fs)) : ∃ a dx vs, v = .ref a ∧ H a = some (.ins C dx vs) ∧ RepF K F fs vs := by
  cases r with
  | ref a =>
    cases q : h a with
    | none => simp [DL.insOf, q] at e
    | some o =>
      cases o with
      | ins C' gs =>
        simp only [DL.insOf, q, Option.some.injEq, Prod.mk.injEq] at e
        obtain ⟨rfl, rfl⟩ := e
        obtain ⟨_, u, hu, dx, vs, rfl, rs⟩ := S.ob _ _ q
        exact ⟨a, dx, vs, rfl, hu, rs⟩
      | _ => simp [DL.insOf, q] at e
  | @ob a C' dx xs vs hf rs =>
    simp only [DL.insOf, Option.some.injEq, Prod.mk.injEq] at e
    obtain ⟨rfl, rfl⟩ := e
    exact ⟨a, dx, vs, rfl, S.fz _ _ hf, rs⟩
  | _ => simp [DL.insOf] at e
end
section
variable {X : Cx} {E : XK} {gz : Bool} {k : Nat} {o value e : Expr} {es : List Expr} {wo wv : WE} {wl : WA} {pos pos' p : Pos} {f x : Str} {C : Addr}
/-- e.f of an instance of C -/
def wFld (C : Addr) (f : Str) (wo : WE) : WE := fun ρ h Q X => wo ρ h (fun x h1 => ∃ fs d, insOf h1 x = some (C, fs) ∧ fs.lookup f = some d ∧ Q d h1) X
theorem ae_fld (c : Cls X.K C) (n : NoAttr X.K C f) (ho : AE X E o wo) (hb : attributeBase o f X.env (eval o X.env) = eval o X.env := by rfl) : AE X E (.Attribute o f pos) (wFld C f wo) := by
  refine ⟨PE.imp (pe_fld ho.run hb) fun σ H Q ⟨F, ρ, h, S, R, q⟩ => ?_, fun ρ h Q Q' X X' hq hx q => ho.mo _ _ _ _ _ _ (fun x h1 ⟨fs, d, e1, e2, z⟩ => ⟨fs, d, e1, e2, hq _ _ z⟩) hx q⟩
  refine ⟨F, ρ, h, S, R, ho.mo _ _ _ _ _ _ (fun x h1 z => ?_) (fun _ _ z => z) q⟩
  intro F1 H1 v e1 S1 r
  obtain ⟨fs, d, ei, el, z⟩ := z
  obtain ⟨a, dx, vs, rfl, ha, rs⟩ := S1.insOf r ei
  obtain ⟨w, hw, rw'⟩ := rs.look el
  exact ⟨a, C, dx, vs, w, rfl, ha, c, n, hw, z F1 H1 w e1 S1 rw'⟩
/-- o.f = value -/
def wSetF (C : Addr) (f : Str) (wo wv : WE) : WS := fun D ρ h => wv ρ h (fun z h1 => wo ρ h1 (fun x h2 => ∃ a fs, x = .ref a ∧ h2 a = some (.ins C fs) ∧ fs.length < 1000 ∧ D.nx ρ (up h2 a (.ins C (putFD f z fs)))) D.ex) D.ex
theorem as_fld (c : Cls X.K C) (n : NoAttr X.K C f) (ho : AE X E o wo) (hv : AE X E value wv) (hs : swapsWith value (some (.Attribute o f pos')) pos.line X.env = pure false := by rfl) : AS X E (.Assign [.Attribute o f pos'] value pos) (wSetF C f wo wv) := by
  refine ⟨PS.imp (ps_fld ho.run hv.run hs) fun D σ H ⟨F, ρ, h, S, R, q⟩ => ?_, fun D D' ρ h l q => hv.mo _ _ _ _ _ _ (fun z h1 q => ho.mo _ _ _ _ _ _ (fun x h2 ⟨a, fs, e1, e2, e3, q⟩ => ⟨a, fs, e1, e2, e3, l.nx _ _ q⟩) l.ex q) l.ex q⟩
  refine ⟨F, ρ, h, S, R, hv.mo _ _ _ _ _ _ (fun z h1 q => ?_) (fun _ _ z => z) q⟩
  intro F1 H1 vz e1 S1 rz
  refine ⟨F1, ρ, h1, S1, R.ext e1, ho.mo _ _ _ _ _ _ (fun x h2 q => ?_) (fun _ _ z => LX.ext e1 z) q⟩
  intro F2 H2 vx e2 S2 rx
  obtain ⟨a, fs, rfl, ea, l, q⟩ := q
  cases rx
  obtain ⟨_, u, hu, dx, vs, rfl, rs⟩ := S2.ob _ _ ea
  exact ⟨a, C, dx, vs, rfl, hu, c, n, by rw [← rs.length]; exact l, q F2 _ σ (e1.trans e2) (S2.put ea (o := .ins C (putFD f z fs)) ⟨dx, _, rfl, rs.put (rz.ext e2)⟩) (R.ext (e1.trans e2))⟩
/-- C(e, ..): made, then taken as what does not change -/
def wMake (C : Addr) (S : FSpec) (wl : WA) : WE := fun ρ h Q X => wl ρ h (fun ds h1 => ∀ a, h1 a = none → S (.ref a :: ds) (up h1 a (.ins C [])) (fun v h2 => v = .non ∧ ∃ fs, h2 a = some (.ins C fs) ∧ Q (.ob C fs) (rm h2 a)) X) X
/-- what a positional call of a def promises -/
abbrev FnRD (P : Program) (w : World) (K : PySem.W.Frag) (mg : Str → Option Value) (base : Heap) (k : Nat) (f : Addr) (S : FSpec) : Prop := FnR P w K mg base (L2.CX P w) k f fun vs H Q E => spD K S vs H Q E
end
end DL
namespace DL
open PySem PySem.Spec L2 C8
section
variable {P : Program} {w : World} {K : PySem.W.Frag} {mg : Str → Option Value} {base : Heap} {k : Nat} {f : Addr} {fd : FuncData} {ps : List Str} {S : FSpec}
/-- a def called with all its parameters by place -/
theorem frd_plain (G : FnG false P w K mg base k f fd ps S) (B : Bnd K fd ps ps.length [] (fun ds _ => ds)) : FnRD P w K mg base k f S := by
  intro A outer s H us vs Q E hr e0 r hs
  obtain ⟨F, ds, g, S0, r0, q⟩ := hs
  have X : K.In s.heap := e0.mod.kin.keeps fun b o e => (e0.bs b o e).1
  obtain ⟨xs, ts, rx, rt, bt⟩ := B.to s F ds [] vs [] us [] X (G.len _ _ _ _ q) rfl r0 r .nil .nil
  exact G.run hr (fun z => Bool.noConfusion z) e0 bt rt ⟨F, ds, g, S0, rx, q⟩
theorem FnRD.mono {j : Nat} (G : FnRD P w K mg base j f S) (h : j ≤ k) : FnRD P w K mg base k f S := fun A outer s H us vs Q E hr => G A outer s H us vs Q E (hr.mono h)
end
section
variable {X : Cx} {E : XK} {gz : Bool} {k j : Nat} {o value e fe : Expr} {es : List Expr} {wo wv we : WE} {wl : WA} {pos pos' p sp_ : Pos} {f x m : Str} {C fI g : Addr} {S : FSpec}
/-- C(*e) -/
def wMakeS (C : Addr) (S : FSpec) (we : WE) : WE := fun ρ h Q X => we ρ h (fun y h1 => ∃ ds, seqOf h1 y = some ds ∧ ∀ a, h1 a = none → S (.ref a :: ds) (up h1 a (.ins C [])) (fun v h2 => v = .non ∧ ∃ fs, h2 a = some (.ins C fs) ∧ Q (.ob C fs) (rm h2 a)) X) X
/-- f(e, ..), f an instance of C -/
def wCallO (C : Addr) (S : FSpec) (wo : WE) (wl : WA) : WE := fun ρ h Q X => wo ρ h (fun y h1 => wl ρ h1 (fun ds h2 => (∃ fs, insOf h2 y = some (C, fs)) ∧ S (y :: ds) h2 Q X) X) X
end
end DL
namespace DL
open PySem PySem.Spec L2 C8
section
variable {P : Program} {w : World} {K : PySem.W.Frag} {mg : Str → Option Value} {base : Heap} {k : Nat} {f : Addr} {fd : FuncData} {ps : List Str} {S : FSpec}
theorem FnG.ok (G : FnG false P w K mg base k f fd ps S) : FnOk P w K mg base (L2.CX P w) k f fd ps (fun vs H Q E => spD K S vs H Q E) :=
  ⟨fun vs H Q E h => spD_len G.len h, fun A outer s H args us vs Q E hr e0 hb hv hs => G.run hr (fun z => Bool.noConfusion z) e0 hb hv hs⟩
end
section
variable {X : Cx} {E : XK} {gz : Bool} {k j : Nat} {o value e fe : Expr} {es : List Expr} {wo wv we : WE} {wl : WA} {pos pos' apos p sp_ : Pos} {f x m : Str} {C fI g pa : Addr} {S : FSpec} {fd : FuncData} {ps : List Str}
def isI (C : Addr) (x : D) (h : AH) : Prop := ∃ fs, insOf h x = some (C, fs)
/-- e.f, a property of C -/
def wProp (C : Addr) (S : FSpec) (wo : WE) : WE := fun ρ h Q X => wo ρ h (fun x h1 => isI C x h1 ∧ S [x] h1 Q (fun _ _ => False)) X
theorem ae_prop (c : Cg gz X E k) (cc : Cls X.K C) (hp : PropOf X.K C f pa g) (G : FnG false X.prog X.w X.K X.mg X.base j g fd ps S) (hb : Binds X.K fd ps []) (hj : j + 1 ≤ k) (ho : AE X E o wo)
    (hab : attributeBase o f X.env (eval o X.env) = eval o X.env := by rfl) : AE X E (.Attribute o f pos) (wProp C S wo) := by
  have hx : Passes (L2.CX X.prog X.w) X.nox L2.E0 := passL
  refine ⟨PE.imp (pe_prop ho.run cc hp G.ok (c.room.mono hj) hb .nil hx hab) fun σ H Q ⟨F, ρ, h, S0, R, q⟩ => ?_, fun ρ h Q Q' X X' hq hx q => ho.mo _ _ _ _ _ _ (fun x h1 z => ⟨z.1, G.mo _ _ _ _ _ _ hq (fun _ _ z => z) z.2⟩) hx q⟩
  refine ⟨F, ρ, h, S0, R, ho.mo _ _ _ _ _ _ (fun x h1 z => ?_) (fun _ _ z => z) q⟩
  intro F1 H1 v e1 S1 r
  obtain ⟨⟨fs, ei⟩, z⟩ := z
  obtain ⟨a, dx, vs, rfl, ha, _⟩ := S1.insOf r ei
  exact ⟨a, dx, vs, rfl, ha, F1, _, h1, S1, .cons r .nil, G.mo _ _ _ _ _ _ (fun _ _ z => LQ.ext e1 z) (fun _ _ z => z.elim) z⟩
/-- o.m(e, ..) -/
def wMet (C : Addr) (m : Str) (S : FSpec) (wo : WE) (wl : WA) : WE := fun ρ h Q X => wo ρ h (fun x h1 => ∃ fs, insOf h1 x = some (C, fs) ∧ fs.lookup m = none ∧ wl ρ h1 (fun ds h2 => S (x :: ds) h2 Q X) X) X
theorem RepF.no {K : PySem.W.Frag} {F : Hp} {f : Str} : ∀ {fs : List (Str × D)} {vs : List (Str × V)}, RepF K F fs vs → fs.lookup f = none → vs.lookup f = none
  | _, _, .nil, _ => rfl
  | _, _, @RepF.cons _ _ k x v xs vs r t, e => by
    cases c : f == k with
    | true => simp only [List.lookup_cons, c] at e; cases e
    | false =>
      simp only [List.lookup_cons, c] at e ⊢
      exact RepF.no t e
theorem ae_met {pl : Sem Bool} (c : Cg gz X E k) (cc : Cls X.K C) (hm : Meth X.K C m g) (G : FnRD X.prog X.w X.K X.mg X.base j g S) (mo : MoF S) (hj : j ≤ k) (ho : AE X E o wo) (ha : AA X E (e :: es) wl)
    (hst : starEach (e :: es) X.env = (false, eval e X.env) :: starEach es X.env := by rfl) (hpl : (backTo pos (starEach es X.env)).any (·.1) = false := by rfl)
    (ht : eval (.Call (.Attribute o m apos) (e :: es) [] pos) X.env = (do let ov ← eval o X.env; standAt apos.atName; let (f, first) ← holding [ov] (getMethod ov m pl); callWith pos f first (backTo pos (starEach (e :: es) X.env)) (backToKw pos (keywordEach [] X.env))) := by rfl) : AE X E (.Call (.Attribute o m apos) (e :: es) [] pos) (wMet C m S wo wl) := by
  refine ⟨PE.imp (pe_methR ho.run cc hm (G.mono hj) c.room c.ps ha.run hst hpl ht) fun σ H Q ⟨F, ρ, h, S0, R, q⟩ => ?_, fun ρ h Q Q' X X' hq hx q => ho.mo _ _ _ _ _ _ (fun x h1 ⟨fs, e1, e2, z⟩ => ⟨fs, e1, e2, ha.mo _ _ _ _ _ _ (fun ds h2 z => mo _ _ _ _ _ _ hq hx z) hx z⟩) hx q⟩
  refine ⟨F, ρ, h, S0, R, ho.mo _ _ _ _ _ _ (fun x h1 z => ?_) (fun _ _ z => z) q⟩
  intro F1 H1 v e1 S1 r
  obtain ⟨fs, ei, el, z⟩ := z
  obtain ⟨a, dx, vs, rfl, hi, rs⟩ := S1.insOf r ei
  refine ⟨a, dx, vs, rfl, hi, rs.no el, F1, ρ, h1, S1, R.ext e1, ha.mo _ _ _ _ _ _ (fun ds h2 z => ?_) (fun _ _ z => LX.ext e1 z) z⟩
  intro F2 H2 us e2 S2 rs2
  exact ⟨F2, _, h2, S2, .cons (r.ext e2) rs2, mo _ _ _ _ _ _ (fun _ _ z => LQ.ext (e1.trans e2) z) (fun _ _ z => LX.ext (e1.trans e2) z) z⟩
end
end DL
namespace DL
open PySem PySem.Spec L2 C8
section
variable {X : Cx} {E : XK} {gz : Bool} {k j : Nat} {a b o e : Expr} {wa wb wo wi : WE} {pos apos : Pos} {m : Str} {C g : Addr} {S : FSpec} {op : Operator}
theorem pass_no : Passes (L2.CX X.prog X.w) X L2.E0 := fun _ _ _ _ _ _ _ h => by
  obtain ⟨_, _, _, _, _, _, _, _, _, _, _, _, h⟩ := h
  exact False.elim h
theorem ins_at {pins : List (Addr × Obj)} {σ : L2.St} {H : Hp} {s : Shared} {q dx : Addr} {fs : List (Str × V)} (I : Inv X pins σ H s) (h : H q = some (.ins C dx fs)) : ∃ ox od, PySem.W.InstAt s.heap q ox C od := by
  obtain ⟨mA, O, _⟩ := ins_get I.hok h
  obtain ⟨od, J, _⟩ := O.look
  exact ⟨_, _, J⟩
/-- x[i], x an instance of C whose def is at g -/
def rIxOwn (C : Addr) (sp : Sp) : R2 := fun x y H Q => ∃ a dx fs, x = .ref a ∧ H a = some (.ins C dx fs) ∧ sp [x, y] H Q L2.E0
end
end DL
namespace DL
open PySem PySem.Spec L2 C8
section
variable {X : Cx} {E : XK} {gz : Bool} {k : Nat} {a b e o : Expr} {rest : List Expr} {wa wb wo : WE} {pos apos cpos p : Pos} {m : Str} {C g : Addr} {S : FSpec} {j : Nat}
/-- a or b, a of any truth -/
def wOrT (wa wb : WE) : WE := fun ρ h Q X => wa ρ h (fun x h1 => ∃ k, truD h1 x = some k ∧ if k = true then Q x h1 else wb ρ h1 Q X) X
theorem ae_orT (ha : AE X E a wa) (hb : AE X E (.BoolOp .Or (b :: rest) pos) wb) : AE X E (.BoolOp .Or (a :: b :: rest) pos) (wOrT wa wb) := by
  refine ⟨PE.imp (pe_orT ha.run hb.run) fun σ H Q ⟨F, ρ, h, S0, R, q⟩ => ?_, fun ρ h Q Q' X X' hq hx q => ha.mo _ _ _ _ _ _ (fun x h1 ⟨k, e1, z⟩ => ⟨k, e1, ?_⟩) hx q⟩
  · refine ⟨F, ρ, h, S0, R, ha.mo _ _ _ _ _ _ (fun x h1 z => ?_) (fun _ _ z => z) q⟩
    intro F1 H1 v e1 S1 r
    obtain ⟨k, ek, z⟩ := z
    refine ⟨k, S1.truD r ek, ?_⟩
    split at z
    · rename_i c; rw [if_pos c]; exact z F1 H1 v e1 S1 r
    · rename_i c; rw [if_neg c]; exact ⟨F1, ρ, h1, S1, R.ext e1, hb.mo _ _ _ _ _ _ (fun _ _ z => LQ.ext e1 z) (fun _ _ z => LX.ext e1 z) z⟩
  · split at z
    · rename_i c; rw [if_pos c]; exact hq _ _ z
    · rename_i c; rw [if_neg c]; exact hb.mo _ _ _ _ _ _ hq hx z
end
end DL
namespace DL
open PySem PySem.Spec L2 C8
/-! ### dict comprehensions -/
def dcD (st : AH → Prop) (g : WG) (tt : WT) (tk tv : WE) (vs : List Nat) (ρ : EnvD) (p : Addr) : List D → AH → (AH → Prop) → Prop
  | [], h, Q => st h ∧ Q h
  | x :: r, h, Q => st h ∧ g x (wipeD ρ vs) h (fun ρ2 h2 => tt ρ2 h2 (fun b h3 => if b = true then tk ρ2 h3 (fun y h4 => tv ρ2 h4 (fun z h5 => ∃ kvs k, keyD y = some k ∧ h5 p = some (.dK kvs) ∧ kvs.length < sizeLine ∧ dcD st g tt tk tv vs ρ p r (up h5 p (.dK (putD kvs k z))) Q) (fun _ _ => False)) (fun _ _ => False)
      else dcD st g tt tk tv vs ρ p r h3 Q) (fun _ _ => False)) (fun _ _ => False)
def endK (m : Bool) (p : Addr) (Q : KD) : AH → Prop := fun h => ∃ kvs, h p = some (.dK kvs) ∧ if m = true then Q (.ref p) h else Q (.dK kvs) (rm h p)
def wDc (m : Bool) (wi : WI) (g : WG) (tt : WT) (tk tv : WE) (vs : List Nat) : WE := fun ρ h Q X => wi ρ h (fun xs st h1 => ∀ p, h1 p = none → dcD st g tt tk tv vs ρ p xs (up h1 p (.dK [])) (endK m p Q)) X
/-! ### x[::-1] of a list -/
end DL
namespace DL
open PySem PySem.Spec L2 C8 PyProof.Rows
end DL
namespace DL
open PySem PySem.Spec L2 C8 PyProof.Rows
/-- a key as data -/
def kD : Key → D
  | .inl i => .int i
  | .inr s => .str s
end DL
namespace DL
open PySem PySem.Spec L2 C8 PyProof.Rows
/-! ### dict(t), t a tuple of pairs -/
end DL
namespace DL
open PySem PySem.Spec L2 C8 PyProof.Rows
section
variable {X : Cx}
theorem Paired.imp {α β : Type} {F G : α → β → Prop} (h : ∀ a b, F a b → G a b) : ∀ {xs : List α} {ys : List β}, Paired F xs ys → Paired G xs ys
  | _, _, .nil => .nil
  | _, _, .cons p t => .cons (h _ _ p) (Paired.imp h t)
end
end DL
namespace DL
open PySem PySem.Spec L2 C8
/-! ### a dict written out; an empty one that does not change -/
section
variable {X : Cx} {E : XK} {pos : Pos}
def wDnewF : WE := fun _ h Q _ => Q (.dK []) h
theorem ae_dnewF : AE X E (.Dict [] [] pos) wDnewF := by
  refine ⟨PE.imp pe_dnewK fun σ H Q ⟨F, ρ, h, S, R, q⟩ => ?_, fun ρ h Q Q' X X' hq _ q => hq _ _ q⟩
  intro p hp
  obtain ⟨f, g⟩ := S.free hp
  exact q _ _ _ (ext_upd f) (S.newF hp (.dK [])) (.dK upd_same .nil)
theorem RepK.len {K : PySem.W.Frag} {F : Hp} {kvs : List (Key × D)} {vs : List (Key × V)} (r : RepK K F kvs vs) : kvs.length = vs.length := by
  induction kvs generalizing vs with
  | nil => cases r; rfl
  | cons x xs ih => cases r with | cons h t => rw [List.length_cons, List.length_cons, ih t]
end
end DL
namespace DL
open PySem PySem.Spec L2 C8
/-! ### repr of data within which empty dicts may stand -/
mutual
def pq : D → PyData
  | .non => .none
  | .bl b => .bool b
  | .int i => .int i
  | .str s => .str s
  | .tup xs => .tuple (pqs xs)
  | .tpl xs => .tuple (pqs xs)
  | .lst xs => .list (pqs xs)
  | .ref _ => .none
  | .ty _ => .none
  | .lk _ => .none
  | .ob _ _ => .none
  | .xob _ _ => .none
  | .lam _ _ _ _ _ => .none
  | .dK _ => .dict []
  | .dT _ => .none
def pqs : List D → List PyData
  | [] => []
  | x :: xs => pq x :: pqs xs
end
mutual
def dq : D → Bool
  | .non => true
  | .bl _ => true
  | .int _ => true
  | .str _ => true
  | .tup xs => dqs xs
  | .tpl xs => dqs xs
  | .lst xs => dqs xs
  | .ref _ => false
  | .ty _ => false
  | .lk _ => false
  | .ob _ _ => false
  | .xob _ _ => false
  | .lam _ _ _ _ _ => false
  | .dK kvs => kvs.isEmpty
  | .dT _ => false
def dqs : List D → Bool
  | [] => true
  | x :: xs => dq x && dqs xs
end
mutual
inductive Dq (K : PySem.W.Frag) (H : Hp) : V → PyData → Prop
  | non : Dq K H .non .none
  | bl (b : Bool) : Dq K H (.bl b) (.bool b)
  | int (i : Int) : Dq K H (.int i) (.int i)
  | str (x : Str) : Dq K H (.str x) (.str x)
  | lst {a : Addr} {xs : List V} {ds : List PyData} : H a = some (.lst xs) → DqAll K H xs ds → Dq K H (.ref a) (.list ds)
  | tup {a : Addr} {xs : List V} {ds : List PyData} : SqT K H a xs → DqAll K H xs ds → Dq K H (.ref a) (.tuple ds)
  | dic {a : Addr} : H a = some (.dK []) → Dq K H (.ref a) (.dict [])
inductive DqAll (K : PySem.W.Frag) (H : Hp) : List V → List PyData → Prop
  | nil : DqAll K H [] []
  | cons {v : V} {vs : List V} {d : PyData} {ds : List PyData} : Dq K H v d → DqAll K H vs ds → DqAll K H (v :: vs) (d :: ds)
end
section
variable {K : PySem.W.Frag} {F H : Hp}
mutual
theorem Rep.dq (e : ∀ a o, F a = some o → H a = some o) : ∀ {d : D} {v : V}, Rep K F d v → DL.dq d = true → Dq K H v (pq d)
  | _, _, .non, _ => by rw [pq]; exact .non
  | _, _, .bl b, _ => by rw [pq]; exact .bl b
  | _, _, .int i, _ => by rw [pq]; exact .int i
  | _, _, .str s, _ => by rw [pq]; exact .str s
  | _, _, .ref _, q => by rw [DL.dq] at q; cases q
  | _, _, .ty _, q => by rw [DL.dq] at q; cases q
  | _, _, .lk _ _, q => by rw [DL.dq] at q; cases q
  | _, _, .ob _ _, q => by rw [DL.dq] at q; cases q
  | _, _, .dT _ _, q => by rw [DL.dq] at q; cases q
  | _, _, .tup h r, q => by rw [DL.dq] at q; rw [pq]; exact .tup (sqt_of e h) (Reps.dq e r q)
  | _, _, .tpl h hd r, q => by rw [DL.dq] at q; rw [pq]; exact .tup (sqt_of e (.inl (.inr ⟨_, h⟩))) (Reps.dq e r q)
  | _, _, .lst h r, q => by rw [DL.dq] at q; rw [pq]; exact .lst (e _ _ h) (Reps.dq e r q)
  | .dK [], _, .dK h .nil, q => by rw [pq]; exact .dic (e _ _ h)
  | .dK (_ :: _), _, .dK h r, q => by rw [DL.dq] at q; cases q
theorem Reps.dq (e : ∀ a o, F a = some o → H a = some o) : ∀ {ds : List D} {vs : List V}, Reps K F ds vs → dqs ds = true → DqAll K H vs (pqs ds)
  | _, _, .nil, _ => by rw [pqs]; exact .nil
  | _, _, .cons r t, q => by
    rw [dqs, Bool.and_eq_true] at q
    rw [pqs]
    exact .cons (Rep.dq e r q.1) (Reps.dq e t q.2)
end
end
section
variable {X : Cx} {pins : List (Addr × Obj)} {σ : L2.St} {H : Hp} {s : Shared}
theorem dic_at (I : Inv X pins σ H s) {a : Addr} (h1 : H a = some (.dK [])) : (a == sysModules) = false ∧ ∃ o ep, s.heap.get? a = some o ∧ o.cls = .type "dict" ∧ o.data = .dict #[] ep := by
  obtain ⟨_, hm, vs, kv, ⟨o, es, ep, ho, hx, hd, _, hp, _⟩⟩ := dk_of I.hok h1
  cases kv
  have le := Pairs.length hp
  have ee : es.toList = [] := List.length_eq_zero_iff.mp (by rw [le]; rfl)
  obtain ⟨l⟩ := es
  have ee : l = [] := ee
  subst ee
  exact ⟨hm, o, ep, ho, hx.1, hd⟩
mutual
theorem Dq.rk (I : Inv X pins σ H s) : ∀ (d : PyData) (v : V) (u : Value), Dq X.K H v d → RelV v u → d.showable = true → d.shown.length ≤ sizeLine →
    ∃ as bs, Reads s.heap u d as ∧ ReadAtMost s.heap d.depth bs ∧ ReprK X.prog X.w bs s.heap d.depth u d.shown
  | .none, _, _, h, r, _, _ => by
    cases h
    cases r
    exact ⟨_, [], Reads.none, (fun _ h => nomatch h), by simp only [PyData.shown]; exact .of_is ReprIs.none _ _ _⟩
  | .bool b, _, _, h, r, _, _ => by
    cases h
    cases r
    exact ⟨_, [], Reads.bool b, (fun _ h => nomatch h), by simp only [PyData.shown]; exact .of_is (ReprIs.bool b) _ _ _⟩
  | .int i, _, _, h, r, hs, _ => by
    cases h
    obtain ⟨t, rfl⟩ := r
    exact ⟨_, [], Reads.int i t, (fun _ h => nomatch h), by simp only [PyData.shown]; exact .of_is (ReprIs.int t (by simpa [PyData.showable] using hs)) _ _ _⟩
  | .str x, _, _, h, r, _, hz => by
    cases h
    obtain ⟨t, rfl⟩ := r
    exact ⟨_, [], Reads.str x t, (fun _ h => nomatch h), by simp only [PyData.shown]; exact .of_is (ReprIs.str x t (by simpa only [PyData.shown] using hz)) _ _ _⟩
  | .list ds, _, _, h, r, hs, hz => by
    cases h with
    | @lst a xs _ h1 ha =>
      cases r
      obtain ⟨its, rv, ⟨o, n, ho, hc, _, hd⟩, _⟩ := I.list (.of h1)
      have hz' : (listText (PyData.shownAll ds)).length ≤ sizeLine := by simpa only [PyData.shown] using hz
      obtain ⟨as, bs, hr, hb, hk⟩ := Dq.rkAll I ds _ its ha rv (by simpa [PyData.showable] using hs) (fun t ht => Nat.le_trans (listText_mem_le ht) hz')
      have r : Reads s.heap (.ref a) (.list ds) _ := .list ho hc hd hr
      have hna : a ∉ bs := not_mem_of_deeper r (by simp only [PyData.depth]; omega) hb
      refine ⟨_, a :: bs, r, ReadAtMost.cons r (by simp only [PyData.depth]; omega) hb, ?_⟩
      simp only [PyData.depth, PyData.shown]
      cases its with
      | nil =>
        cases hr
        simp only [PyData.shownAll, listText_nil]
        exact ReprK.listEmpty ho hc hd
      | cons x l => exact ReprK.list ho hc hd hna (by simpa using hk.length_eq) (fun i y e => hk.item i y (by simpa using e))
  | .tuple ds, _, _, h, r, hs, hz => by
    cases h with
    | @tup a xs _ h1 ha =>
      cases r
      obtain ⟨its, rv, ⟨o, ho, hc, n, hd⟩, _⟩ := I.tuple h1
      have hz' : (tupleText (PyData.shownAll ds)).length ≤ sizeLine := by simpa only [PyData.shown] using hz
      obtain ⟨as, bs, hr, hb, hk⟩ := Dq.rkAll I ds _ its ha rv (by simpa [PyData.showable] using hs) (fun t ht => Nat.le_trans (tupleText_mem_le ht) hz')
      have r : Reads s.heap (.ref a) (.tuple ds) _ := .tuple ho hc hd hr
      have hna : a ∉ bs := not_mem_of_deeper r (by simp only [PyData.depth]; omega) hb
      refine ⟨_, a :: bs, r, ReadAtMost.cons r (by simp only [PyData.depth]; omega) hb, ?_⟩
      simp only [PyData.depth, PyData.shown]
      exact ReprK.tuple ho hc hd hna hk
  | .dict _, _, _, h, r, _, _ => by
    cases h with
    | @dic a h1 =>
      cases r
      obtain ⟨hm, o, ep, ho, hc, hd⟩ := dic_at I h1
      have r : Reads s.heap (.ref a) (.dict []) _ := .dict (as := []) (bs := []) (kvs := []) ho hc hd .nil .nil
      refine ⟨_, [a], r, ReadAtMost.cons r (Nat.le_refl _) (fun _ h => nomatch h), ?_⟩
      exact ReprK.dict (as := []) ho hc hd hm (fun h => nomatch h) .nil
theorem Dq.rkAll (I : Inv X pins σ H s) : ∀ (ds : List PyData) (vs : List V) (us : List Value), DqAll X.K H vs ds → Vals vs us → PyData.showableAll ds = true → (∀ t ∈ PyData.shownAll ds, t.length ≤ sizeLine) →
    ∃ as bs, ReadsAll s.heap us ds as ∧ ReadAtMost s.heap (PyData.depthAll ds) bs ∧ ReprAllK X.prog X.w bs s.heap (PyData.depthAll ds) us (PyData.shownAll ds)
  | [], _, _, h, r, _, _ => by
    cases h
    cases r
    exact ⟨_, [], ReadsAll.nil, (fun _ h => nomatch h), by simp only [PyData.shownAll]; exact .nil⟩
  | d :: ds, _, _, h, r, hs, hz => by
    cases h with
    | cons h1 h2 =>
      cases r with
      | cons r1 r2 =>
        have hs' : d.showable = true ∧ PyData.showableAll ds = true := by simpa [PyData.showableAll] using hs
        obtain ⟨as, b1, q1, hb1, k1⟩ := Dq.rk I d _ _ h1 r1 hs'.1 (hz _ (by simp only [PyData.shownAll]; exact List.mem_cons_self ..))
        obtain ⟨cs, b2, q2, hb2, k2⟩ := Dq.rkAll I ds _ _ h2 r2 hs'.2 (fun t ht => hz t (by simp only [PyData.shownAll]; exact List.mem_cons_of_mem _ ht))
        refine ⟨_, b1 ++ b2, ReadsAll.cons q1 q2, ?_, ?_⟩
        · intro b hm
          simp only [PyData.depthAll]
          rcases List.mem_append.mp hm with hm | hm
          · obtain ⟨d', as', r', hd'⟩ := hb1 b hm
            exact ⟨d', as', r', Nat.le_trans hd' (Nat.le_max_left _ _)⟩
          · obtain ⟨d', as', r', hd'⟩ := hb2 b hm
            exact ⟨d', as', r', Nat.le_trans hd' (Nat.le_max_right _ _)⟩
        · simp only [PyData.depthAll, PyData.shownAll]
          exact .cons ((k1.more fun b hb => List.mem_append_left _ hb).level_le (Nat.le_max_left _ _)) (k2.more_le (fun b hb => List.mem_append_right _ hb) (Nat.le_max_right _ _))
end
theorem Dq.shows (I : Inv X pins σ H s) {d : PyData} {a : Addr} (h : Dq X.K H (.ref a) d) (hs : d.showable = true) (hsz : d.shown.length ≤ sizeLine) : ∃ T idr, ShowsBy X.prog X.w s.heap a d T idr := by
  cases h with
  | @lst _ xs ds h1 ha =>
    obtain ⟨its, rv, ⟨o, n, ho, hc, _, hd⟩, _⟩ := I.list (.of h1)
    have hz' : (listText (PyData.shownAll ds)).length ≤ sizeLine := by simpa only [PyData.shown] using hsz
    obtain ⟨as, bs, hr, hb, hk⟩ := Dq.rkAll I ds _ its ha rv (by simpa [PyData.showable] using hs) (fun t ht => Nat.le_trans (listText_mem_le ht) hz')
    have hna : a ∉ bs := not_mem_of_deeper (.list ho hc hd hr) (by simp only [PyData.depth]; omega) hb
    refine ⟨"list", "list.__repr__", F.slot_list_repr.toG, F.slot_list_str, F.slot_list_format, fun s' hk0 => ⟨o, hk0 _ _ ho, hc⟩, fun A E s' Q hg hu hk0 hQ => ?_⟩
    simp only [PyData.depth] at hu
    simp only [PyData.shown] at hQ
    cases its with
    | nil =>
      cases hr
      simp only [PyData.shownAll, listText_nil] at hQ
      exact call_list_repr_empty ⟨o, hk0 _ _ ho, hc⟩ (hk0 _ _ ho) hd (hQ s'.heap _ _ fun _ _ e => e)
    | cons x l => exact call_list_reprK ho hc hd hna (by simpa using hk.length_eq) (fun i y e => hk.item i y (by simpa using e)) hg (fun b _ => Clear.nil b) hu hk0 hQ hz'
  | @tup _ xs ds h1 ha =>
    obtain ⟨its, rv, ⟨o, ho, hc, n, hd⟩, _⟩ := I.tuple h1
    have hz' : (tupleText (PyData.shownAll ds)).length ≤ sizeLine := by simpa only [PyData.shown] using hsz
    obtain ⟨as, bs, hr, hb, hk⟩ := Dq.rkAll I ds _ its ha rv (by simpa [PyData.showable] using hs) (fun t ht => Nat.le_trans (tupleText_mem_le ht) hz')
    have hna : a ∉ bs := not_mem_of_deeper (.tuple ho hc hd hr) (by simp only [PyData.depth]; omega) hb
    refine ⟨"tuple", "tuple.__repr__", F.slot_tuple_repr, F.slot_tuple_str, F.slot_tuple_format, fun s' hk0 => ⟨o, hk0 _ _ ho, hc⟩, fun A E s' Q hg hu hk0 hQ => ?_⟩
    simp only [PyData.depth] at hu
    simp only [PyData.shown] at hQ
    exact call_tuple_reprK ho hc hd hna hk hg (fun b _ => Clear.nil b) hu hk0 hQ hz'
  | dic h1 =>
    obtain ⟨hm, o, ep, ho, hc, hd⟩ := dic_at I h1
    refine ⟨"dict", "dict.__repr__", F.slot_dict_repr, F.slot_dict_str, F.slot_dict_format, fun s' hk0 => ⟨o, hk0 _ _ ho, hc⟩, fun A E s' Q hg hu hk0 hQ => ?_⟩
    simp only [PyData.depth] at hu
    simp only [PyData.shown] at hQ
    exact call_dict_reprK (as := []) ho hc hd hm (fun h => nomatch h) .nil hg (fun b _ => Clear.nil b) hu hk0 hQ hsz
theorem call_reprQ (hg : X.A.guards = some []) (hu : X.A.units + 64 < cLine) : CallR X (.builtin "repr") (fun vs H Q => ∃ x d, vs = [x] ∧ Dq X.K H x d ∧ d.showable = true ∧ d.depth ≤ 60 ∧ d.shown.length ≤ sizeLine ∧ Q (.str d.shown) H) := by
  intro pins s σ H xs us Q I r h
  obtain ⟨x, d, rfl, hd, hs, dp, hz, q⟩ := h
  obtain ⟨u, rfl, rx⟩ : ∃ u, us = [u] ∧ RelV x u := by cases r with | cons r t => cases t; exact ⟨_, rfl, r⟩
  have refs : ∀ {a : Addr}, Dq X.K H (.ref a) d → wpAny (model X.prog X.w) X.A (call (.builtin "repr") [.ref a]) (EP X pins σ Q) X.xe s := fun {a} hd => by
    obtain ⟨T, idr, S⟩ := Dq.shows I hd hs hz
    exact call_repr_slot (by omega) (S.typeIs s fun _ _ z => z) S.slotRepr (S.call X.A.in1 X.xe s _ hg (by show X.A.units + 1 + d.depth < cLine; omega) (fun _ _ z => z) fun h' u tk hk => ⟨_, _, rfl, ⟨.str _, H, I.kept hk, ⟨_, rfl⟩, q⟩⟩)
  cases hd with
  | non => cases rx; exact PySem.P.repr_of_none ⟨.str _, H, I.tok _, ⟨_, rfl⟩, by rw [PyData.shown] at q; exact q⟩
  | bl b => cases rx; exact PySem.P.repr_of_bool ⟨.str _, H, I.tok _, ⟨_, rfl⟩, by rw [PyData.shown] at q; exact q⟩
  | int i =>
    obtain ⟨t, rfl⟩ := rx
    refine PySem.P.repr_of_int (by rw [PyData.showable] at hs; exact of_decide_eq_true hs) ⟨.str _, H, I.tok _, ⟨_, rfl⟩, by rw [PyData.shown] at q; exact q⟩
  | str x =>
    obtain ⟨t, rfl⟩ := rx
    exact PySem.P.repr_of_str ⟨.str _, H, I.tok _, ⟨_, rfl⟩, by rw [PyData.shown] at q; exact q⟩ (by rw [PyData.shown] at hz; exact hz)
  | lst h1 h2 => cases rx; exact refs (.lst h1 h2)
  | tup h1 h2 => cases rx; exact refs (.tup h1 h2)
  | dic h1 => cases rx; exact refs (.dic h1)
def dReprQ (ds : List D) (h : AH) (Q : KD) : Prop := ∃ x, ds = [x] ∧ dq x = true ∧ (pq x).showable = true ∧ (pq x).depth ≤ 60 ∧ (pq x).shown.length ≤ sizeLine ∧ Q (.str (pq x).shown) h
theorem dReprQ_ok (hg : X.A.guards = some []) (hu : X.A.units + 64 < cLine) : CaD X (.builtin "repr") dReprQ where
  ex := ⟨_, call_reprQ hg hu, fun {F h H ds vs Q} S r q => by
    obtain ⟨x, rfl, e1, e2, e3, e4, q⟩ := q
    obtain ⟨v, rfl, r1⟩ := r.one
    exact ⟨v, _, rfl, Rep.dq S.fz r1 e1, e2, e3, e4, q.at S (.str _)⟩⟩
  mo := fun {ds h Q Q'} hq ⟨x, e, e1, e2, e3, e4, q⟩ => ⟨x, e, e1, e2, e3, e4, hq _ _ q⟩
end
end DL
namespace PySem.W
open PySem PySem.Spec PySem.Calls PyProof.Rows
section
variable {prog : Program} {w : World} {A : Around} {E : Value → Shared → Prop} {s : Shared}
theorem rc_lens {l b : Addr} {items items2 : Array Value} {Q : Value → Shared → Prop} (hl : s.heap.IsList l items) (hb : s.heap.IsList b items2) (hsz : items.size ≠ items2.size) (hu : A.units < cLine)
    (h : Q (.bool false) s) : wpAny (model prog w) A (richCompare .Eq (.ref l) (.ref b)) Q E s := by
  obtain ⟨⟨cls, dd, data, sl⟩, ho, hc, n, hd⟩ := id hl
  obtain ⟨⟨cls2, dd2, data2, sl2⟩, ho2, hc2, n2, hd2⟩ := id hb
  simp only at hc hd hc2 hd2
  subst hc hd hc2 hd2
  exact wpAny_richCompare_same_room (T := "list") (op := .Eq) ⟨_, ho, rfl⟩ ⟨_, ho2, rfl⟩ F.slot_list_eq (call_meets F.slot_list_eq ⟨_, ho, rfl⟩ F.entry_list_eq (F.args_list_eq_2 _ _) (SeqAt.list_eq_lengthsAt l b items items2 n n2 dd dd2 sl sl2 (by simpa using hsz))
    ⟨ho, ho2, show Value.bool false ≠ Value.notImplemented ∧ Q (.bool false) s from ⟨(fun x => nomatch x), h⟩⟩) hu
end
end PySem.W
namespace DL
open PySem PySem.Spec L2 C8
theorem vals_size {xs : List V} {us : List Value} (r : Vals xs us) : us.toArray.size = xs.length := by rw [r.length]; simp
/-- x == [], x == (): by length alone -/
def rEqE (K : PySem.W.Frag) : R2 := fun x y H Q => ∃ a b xs, x = .ref a ∧ y = .ref b ∧ ((SqL K H a xs ∧ SqL K H b []) ∨ (SqT K H a xs ∧ SqT K H b [])) ∧ Q (.bl xs.isEmpty) H
theorem op_eqE {X : Cx} (hu : X.A.units + 64 < cLine) : OpR X (compareOp .Eq) (rEqE X.K) := by
  intro pins s σ H x y v u Q I rx ry h
  obtain ⟨a, b, xs, rfl, rfl, hq, q⟩ := h
  cases rx; cases ry
  have fin : EP X pins σ Q (.bool xs.isEmpty) s := ⟨.bl _, H, I, rfl, q⟩
  rcases hq with ⟨h1, h2⟩ | ⟨h1, h2⟩
  · obtain ⟨its, rv, p, _⟩ := I.list h1
    obtain ⟨its2, rv2, p2, _⟩ := I.list h2
    have z1 := vals_size rv
    have z2 := vals_size rv2
    cases xs with
    | nil => exact PySem.SeqAt.rcIn_lists (e := fun _ => true) p.isList p2.isList (by rw [z1, z2]) (by omega) (fun j g1 g2 => by rw [z1] at g1; cases g1) (by rw [z1]; exact fin)
    | cons x xs => exact PySem.W.rc_lens p.isList p2.isList (by rw [z1, z2]; simp) (by omega) fin
  · obtain ⟨its, rv, p, _⟩ := I.tuple h1
    obtain ⟨its2, rv2, p2, _⟩ := I.tuple h2
    have z1 := vals_size rv
    have z2 := vals_size rv2
    refine PySem.SeqAt.rcIn_tuples (e := fun _ => true) p p2 (by omega) (fun j g1 g2 => by rw [z2] at g2; cases g2) ?_
    rw [z1, z2]
    cases xs with
    | nil => exact fin
    | cons x xs => exact fin
def dEqE (x y : D) (h : AH) (Q : KD) : Prop := match y with
  | .lst [] => ∃ xs, lstOf h x = some xs ∧ Q (.bl xs.isEmpty) h
  | .tup [] => ∃ xs, (x = .tup xs ∨ x = .tpl xs) ∧ Q (.bl xs.isEmpty) h
  | _ => False
theorem reps_emp {K : PySem.W.Frag} {F : Hp} {xs : List D} {vs : List V} (r : Reps K F xs vs) : vs.isEmpty = xs.isEmpty := by cases r <;> rfl
theorem dEqE_ok {K : PySem.W.Frag} : OpD K (rEqE K) dEqE where
  to := by
    intro F h H x y vx vy Q S rx ry q
    unfold dEqE at q
    split at q
    · obtain ⟨xs, e, q⟩ := q
      obtain ⟨a, vs, rfl, ha, rs⟩ := S.lstOf rx e
      cases ry with
      | @lst b _ ws hb rb =>
        cases rb
        exact ⟨a, b, vs, rfl, rfl, .inl ⟨.of ha, .of (S.fz _ _ hb)⟩, by rw [reps_emp rs]; exact q.at S (.bl _)⟩
    · obtain ⟨xs, e, q⟩ := q
      cases ry with
      | @tup b _ ws hb rb =>
        cases rb
        rcases e with rfl | rfl
        · cases rx with
          | @tup a _ vs ha rs => exact ⟨a, b, vs, rfl, rfl, .inr ⟨sqt_of S.fz ha, sqt_of S.fz hb⟩, by rw [reps_emp rs]; exact q.at S (.bl _)⟩
        · cases rx with
          | @tpl a _ _ vs ha hd rs => exact ⟨a, b, vs, rfl, rfl, .inr ⟨sqt_of S.fz (.inl (.inr ⟨_, ha⟩)), sqt_of S.fz hb⟩, by rw [reps_emp rs]; exact q.at S (.bl _)⟩
    · exact q.elim
  mo := by
    intro x y h Q Q' hq q
    unfold dEqE at *
    split at q
    · obtain ⟨xs, e, q⟩ := q; exact ⟨xs, e, hq _ _ q⟩
    · obtain ⟨xs, e, q⟩ := q; exact ⟨xs, e, hq _ _ q⟩
    · exact q
section
variable {X : Cx} {E : XK} {gz : Bool} {k : Nat} {a b : Expr} {wa wb : WE} {pos : Pos}
theorem at_eqE (c : Cg gz X E k) (ha : AE X E a wa) (hb : AE X E b wb) : AT X E (.Compare a [.Eq] [b] pos) (wTest (wOp dEqE wa wb)) := at_cmp dEqE_ok (op_eqE c.room.units) ha hb
end
end DL
namespace DL
open PySem PySem.Spec L2 C8
/-! ### the draw of the laws k01-k11, k47-k57, k96-k99 -/
end DL
namespace DL
open PySem PySem.Spec L2 C8 PyProof.Rows
/-! ### max(d, default=x), d with int keys -/
section
variable {X : Cx} {E : XK} {gz : Bool} {k : Nat} {o e : Expr} {wo wv : WE} {pos p kpos : Pos}
def wMaxDd (wl wk : WA) : WE := fun ρ h Q X => wl ρ h (fun xs h1 => wk ρ h1 (fun zs h2 => ∃ (x z : D) (kvs : List (Key × D)) (ks : List Int), xs = [x] ∧ zs = [z] ∧ dkOf h2 x = some kvs ∧ kvs.map (·.1) = ks.map Sum.inl ∧ (ks = [] → Q z h2) ∧ ∀ m, m ∈ ks → (∀ y ∈ ks, y ≤ m) → Q (.int m) h2) X) X
end
end DL
namespace DL
open PySem PySem.Spec L2 C8 PyProof.Rows
/-! ### tuple(d.items()) -/
/-- a pair of a dict as data -/
def kvD (e : Key × D) : D := .tup [kD e.1, e.2]
def wTupIt (wo : WE) : WE := fun ρ h Q X => wo ρ h (fun x h1 => ∃ kvs, dkOf h1 x = some kvs ∧ Q (.tup (kvs.map kvD)) h1) X
end DL
namespace DL
open PySem PySem.Spec L2 C8
/-! ### what a class gives, bundled -/
section
variable (P : Program) (w : World) (K : PySem.W.Frag) (mg : Str → Option Value) (base : Heap)
structure PrpC (C : Addr) (f : Str) (k : Nat) (S : FSpec) : Prop where
  cl : Cls K C
  ex : ∃ pa g fd ps, PropOf K C f pa g ∧ FnG false P w K mg base k g fd ps S ∧ Binds K fd ps []
structure MetC (C : Addr) (f : Str) (k : Nat) (S : FSpec) : Prop where
  cl : Cls K C
  ex : ∃ g, Meth K C f g ∧ FnRD P w K mg base k g S
  mo : MoF S
structure IxC (C : Addr) (k : Nat) (S : FSpec) : Prop where
  ex : ∃ g, PySem.W.findIn K (.ref C) "__getitem__" = some (some (.ref g)) ∧ PySem.W.fnIn K g = true ∧ PySem.W.isFn K (.ref g) = true ∧ FnRD P w K mg base k g S
  mo : MoF S
end
section
variable {X : Cx} {E : XK} {gz : Bool} {k j : Nat} {o a b e fe : Expr} {es : List Expr} {wo wa wb we : WE} {wl : WA} {pos apos p sp_ : Pos} {f x m : Str} {C : Addr} {S : FSpec} {op : Operator}
theorem ag_prop (c : Cg gz X E k) (R : PrpC X.prog X.w X.K X.mg X.base C f j S) (hj : j + 1 ≤ k) (ho : AE X E o wo)
    (hab : attributeBase o f X.env (eval o X.env) = eval o X.env := by rfl) : AE X E (.Attribute o f pos) (wProp C S wo) := by
  obtain ⟨pa, g, fd, ps, h1, h2, h3⟩ := R.ex
  exact ae_prop c R.cl h1 h2 h3 hj ho hab
theorem ag_met {pl : Sem Bool} (c : Cg gz X E k) (R : MetC X.prog X.w X.K X.mg X.base C m j S) (hj : j ≤ k) (ho : AE X E o wo) (ha : AA X E (e :: es) wl)
    (hst : starEach (e :: es) X.env = (false, eval e X.env) :: starEach es X.env := by rfl) (hpl : (backTo pos (starEach es X.env)).any (·.1) = false := by rfl)
    (ht : eval (.Call (.Attribute o m apos) (e :: es) [] pos) X.env = (do let ov ← eval o X.env; standAt apos.atName; let (f, first) ← holding [ov] (getMethod ov m pl); callWith pos f first (backTo pos (starEach (e :: es) X.env)) (backToKw pos (keywordEach [] X.env))) := by rfl) : AE X E (.Call (.Attribute o m apos) (e :: es) [] pos) (wMet C m S wo wl) := by
  obtain ⟨g, h1, h2⟩ := R.ex
  exact ae_met (pl := pl) c R.cl h1 h2 R.mo hj ho ha hst hpl ht
def wCalO (C : Addr) (S : FSpec) (wo : WE) (wl : WA) : WE := wCallO C S (fun ρ h Q X => wo ρ h (fun y h1 => (∃ fs, insOf h1 y = some (C, fs)) ∧ Q y h1) X) wl
end
/-! ### how the readings unfold -/
section
variable {ρ : EnvD} {h : AH} {Q : KD} {X : KX} {D0 : EndsD} {a b wo wv : WE} {wl wk : WA} {C : Addr} {S : FSpec} {f m : Str} {fs : List (Str × D)} {x y : D} {mm : Bool}
theorem u_prop : wProp C S wo ρ h Q X = wo ρ h (fun x h1 => isI C x h1 ∧ S [x] h1 Q (fun _ _ => False)) X := rfl
theorem u_fld : wFld C f wo ρ h Q X = wo ρ h (fun x h1 => ∃ fs d, insOf h1 x = some (C, fs) ∧ fs.lookup f = some d ∧ Q d h1) X := rfl
theorem u_setF : wSetF C f wo wv D0 ρ h = wv ρ h (fun z h1 => wo ρ h1 (fun x h2 => ∃ a fs, x = .ref a ∧ h2 a = some (.ins C fs) ∧ fs.length < 1000 ∧ D0.nx ρ (up h2 a (.ins C (putFD f z fs)))) D0.ex) D0.ex := rfl
theorem u_make : wMake C S wl ρ h Q X = wl ρ h (fun ds h1 => ∀ a, h1 a = none → S (.ref a :: ds) (up h1 a (.ins C [])) (fun v h2 => v = .non ∧ ∃ fs, h2 a = some (.ins C fs) ∧ Q (.ob C fs) (rm h2 a)) X) X := rfl
theorem u_makeS : wMakeS C S wo ρ h Q X = wo ρ h (fun y h1 => ∃ ds, seqOf h1 y = some ds ∧ ∀ a, h1 a = none → S (.ref a :: ds) (up h1 a (.ins C [])) (fun v h2 => v = .non ∧ ∃ fs, h2 a = some (.ins C fs) ∧ Q (.ob C fs) (rm h2 a)) X) X := rfl
theorem u_met : wMet C m S wo wl ρ h Q X = wo ρ h (fun x h1 => ∃ fs, insOf h1 x = some (C, fs) ∧ fs.lookup m = none ∧ wl ρ h1 (fun ds h2 => S (x :: ds) h2 Q X) X) X := rfl
theorem u_calO : wCalO C S wo wl ρ h Q X = wo ρ h (fun y h1 => (∃ fs, insOf h1 y = some (C, fs)) ∧ wl ρ h1 (fun ds h2 => (∃ fs, insOf h2 y = some (C, fs)) ∧ S (y :: ds) h2 Q X) X) X := rfl
theorem u_orT : wOrT a b ρ h Q X = a ρ h (fun x h1 => ∃ k, truD h1 x = some k ∧ if k = true then Q x h1 else b ρ h1 Q X) X := rfl
theorem u_tupIt : wTupIt wo ρ h Q X = wo ρ h (fun x h1 => ∃ kvs, dkOf h1 x = some kvs ∧ Q (.tup (kvs.map kvD)) h1) X := rfl
theorem u_dnew : wDnew ρ h Q X = ∀ p, h p = none → Q (.ref p) (up h p (.dK [])) := rfl
theorem u_dput {wi : WE} : wDput wo wi wv D0 ρ h = wv ρ h (fun z h1 => wo ρ h1 (fun x h2 => wi ρ h2 (fun y h3 => ∃ a kvs k, x = .ref a ∧ h3 a = some (.dK kvs) ∧ keyD y = some k ∧ kvs.length < sizeLine ∧ D0.nx ρ (up h3 a (.dK (putD kvs k z)))) D0.ex) D0.ex) D0.ex := rfl
theorem u_get2 {wi wx : WE} : wGet2 wo wi wx ρ h Q X = wo ρ h (fun x h1 => (dkOf h1 x).isSome = true ∧ wi ρ h1 (fun y h2 => wx ρ h2 (fun z h3 => ∃ kvs k, dkOf h3 x = some kvs ∧ keyD y = some k ∧ Q ((valD kvs k).getD z) h3) X) X) X := rfl
theorem u_dget {wi : WE} : wDGet wo wi ρ h Q X = wo ρ h (fun x h1 => wi ρ h1 (fun y h2 => ∃ kvs k d, dkOf h2 x = some kvs ∧ keyD y = some k ∧ valD kvs k = some d ∧ Q d h2) X) X := rfl
theorem u_dc {m : Bool} {wi : WI} {g : WG} {tt : WT} {tk tv : WE} {vs : List Nat} : wDc m wi g tt tk tv vs ρ h Q X = wi ρ h (fun xs st h1 => ∀ p, h1 p = none → dcD st g tt tk tv vs ρ p xs (up h1 p (.dK [])) (endK m p Q)) X := rfl
theorem u_maxDd : wMaxDd wl wk ρ h Q X = wl ρ h (fun xs h1 => wk ρ h1 (fun zs h2 => ∃ (x z : D) (kvs : List (Key × D)) (ks : List Int), xs = [x] ∧ zs = [z] ∧ dkOf h2 x = some kvs ∧ kvs.map (·.1) = ks.map Sum.inl ∧ (ks = [] → Q z h2) ∧ ∀ m, m ∈ ks → (∀ y ∈ ks, y ≤ m) → Q (.int m) h2) X) X := rfl
end
end DL
namespace DL
open PySem PySem.Spec L2 C8
/-! ### lists of pairs of ints as dicts and ledgers: plain theory -/
/-! ### the same as data -/
end DL
namespace DL
open PySem PySem.Spec L2 C8
/-! ### dict comprehensions over what does not change -/
theorem ix_p0 {r : Int × Int} {h : AH} {Q : KD} : dIx (pairD r) (.int 0) h Q = Q (.int r.1) h := u_ixTd at0
theorem ix_p1 {r : Int × Int} {h : AH} {Q : KD} : dIx (pairD r) (.int 1) h Q = Q (.int r.2) h := u_ixTd at1
/-! ### the small defs -/
section
variable {ρ : EnvD} {h : AH} {Q : KD} {X : KX} {D0 : EndsD} {x : D} {t : String}
theorem tyD_in (e : tyD h x = some t) : t = "NoneType" ∨ t = "bool" ∨ t = "int" ∨ t = "str" ∨ t = "tuple" ∨ t = "list" ∨ t = "dict" := by
  unfold tyD at e
  split at e <;> first | (cases e; simp) | cases e
end
def S_isInt : FSpec := fun ds h Q _ => ∃ x t, ds = [x] ∧ tyD h x = some t ∧ Q (.bl (decide (t = "int"))) h
def wr_isInt : WS := (wRet (wAndV (wB dIsi (wCons (wVar 0) (wCons (wC (.ty "int")) wNil))) (wNotV (wB dIsi (wCons (wVar 0) (wCons (wC (.ty "bool")) wNil))))))
theorem pr_isInt : ∀ ds h Q X, S_isInt ds h Q X → wr_isInt (endsD Q X) (startD 1 ds) h := by
  rintro ds h Q X ⟨x, t, rfl, e, q⟩
  show wr_isInt (endsD Q X) [some x] h
  simp only [wr_isInt, u_asg, u_gN, u_ret, u_retN, u_skip, u_expr, u_ifs, u_c, u_op, u_neg, u_test, u_and, u_or, u_not, u_if, u_nil, u_cons, u_tup, u_lst, u_callP, u_call, u_b, u_chain, u_andV, u_addI, u_subI, u_mulI, u_divI, u_modI, u_powI, u_cmpI, u_eqI, u_eqS, u_eqB, u_abs, u_intI, u_intB, u_newT, u_newF, u_isN, u_notN, wVar, List.set_cons_zero, List.set_cons_succ, List.getElem?_cons_zero, List.getElem?_cons_succ, List.length_cons, List.length_nil, u_lc, u_for, u_r1, u_r2, u_r3, u_num, u_notV, u_yes, u_w0, u_w1]
  rcases tyD_in e with rfl | rfl | rfl | rfl | rfl | rfl | rfl
  · exact ⟨x, _, "int", false, rfl, e, rfl, fin_of q⟩
  · exact ⟨x, _, "int", true, rfl, e, rfl, x, _, "bool", true, rfl, e, rfl, fin_of q⟩
  · exact ⟨x, _, "int", true, rfl, e, rfl, x, _, "bool", false, rfl, e, rfl, fin_of q⟩
  · exact ⟨x, _, "int", false, rfl, e, rfl, fin_of q⟩
  · exact ⟨x, _, "int", false, rfl, e, rfl, fin_of q⟩
  · exact ⟨x, _, "int", false, rfl, e, rfl, fin_of q⟩
  · exact ⟨x, _, "int", false, rfl, e, rfl, fin_of q⟩
theorem len_isInt : ∀ ds h Q X, S_isInt ds h Q X → ds.length = 1 := fun _ _ _ _ ⟨_, _, e, _⟩ => by rw [e]; rfl
theorem mo_isInt : MoF S_isInt := fun _ _ _ _ _ _ hq _ ⟨a, b, e, o, q⟩ => ⟨a, b, e, o, hq _ _ q⟩
theorem ty_int {i : Int} {h : AH} : tyD h (.int i) = some "int" := rfl
def btw (x : D) (lo hi : Int) : Bool := match x with
  | .int i => decide (lo ≤ i) && decide (i ≤ hi)
  | _ => false
def S_isBtw : FSpec := fun ds h Q _ => ∃ x t lo hi, ds = [x, .int lo, .int hi] ∧ tyD h x = some t ∧ Q (.bl (btw x lo hi)) h
def wr_isBtw : WS := (wRet (wAndV (wCallP S_isInt 1 (fun ds _ => ds) (wCons (wVar 0) wNil)) (wChain (dCmpI fun i j => decide (i ≤ j)) (dCmpI fun i j => decide (i ≤ j)) (wVar 1) (wVar 0) (wVar 2))))
theorem ty_isint {h : AH} {x : D} (e : tyD h x = some "int") : ∃ i, x = .int i := by
  cases x with
  | int i => exact ⟨i, rfl⟩
  | ref a =>
    cases ea : h a with
    | none => simp [tyD, cur, ea] at e
    | some o => cases o <;> simp [tyD, cur, ea] at e
  | _ => simp [tyD, cur] at e
theorem ty_noint {h : AH} {x : D} {t : String} (e : tyD h x = some t) (n : t ≠ "int") {lo hi : Int} : btw x lo hi = false := by
  cases x with
  | int i => exact absurd (Option.some.inj e).symm n
  | _ => rfl
theorem pr_isBtw : ∀ ds h Q X, S_isBtw ds h Q X → wr_isBtw (endsD Q X) (startD 3 ds) h := by
  rintro ds h Q X ⟨x, t, lo, hi, rfl, e, q⟩
  show wr_isBtw (endsD Q X) [some x, some (.int lo), some (.int hi)] h
  simp only [wr_isBtw, u_asg, u_gN, u_ret, u_retN, u_skip, u_expr, u_ifs, u_c, u_op, u_neg, u_test, u_and, u_or, u_not, u_if, u_nil, u_cons, u_tup, u_lst, u_callP, u_call, u_b, u_chain, u_andV, u_addI, u_subI, u_mulI, u_divI, u_modI, u_powI, u_cmpI, u_eqI, u_eqS, u_eqB, u_abs, u_intI, u_intB, u_newT, u_newF, u_isN, u_notN, wVar, List.set_cons_zero, List.set_cons_succ, List.getElem?_cons_zero, List.getElem?_cons_succ, List.length_cons, List.length_nil, u_lc, u_for, u_r1, u_r2, u_r3, u_num, u_notV, u_yes, u_w0, u_w1]
  refine ⟨trivial, x, t, rfl, e, ?_⟩
  by_cases c : t = "int"
  · subst c
    obtain ⟨i, rfl⟩ := ty_isint e
    have q : Q (.bl (decide (lo ≤ i) && decide (i ≤ hi))) h := q
    simp only [decide_true, if_true, u_cmpI]
    by_cases d : lo ≤ i
    · rw [decide_eq_true d] at q ⊢
      exact fin_of q
    · rw [decide_eq_false d] at q ⊢
      exact fin_of q
  · rw [ty_noint e c] at q
    simp only [decide_eq_false c]
    exact fin_of q
theorem len_isBtw : ∀ ds h Q X, S_isBtw ds h Q X → ds.length = 3 := fun _ _ _ _ ⟨_, _, _, _, e, _⟩ => by rw [e]; rfl
theorem mo_isBtw : MoF S_isBtw := fun _ _ _ _ _ _ hq _ ⟨a, b, c, d, e, o, q⟩ => ⟨a, b, c, d, e, o, hq _ _ q⟩
end DL
namespace DL
open PySem PySem.Spec L2 C8
/-! ### isinstance of an own class -/
theorem cst_ref {K : PySem.W.Frag} {mg : Str → Option Value} {x : Str} {C : Addr} (h : mg x = some (.ref C)) : Cst K mg x (.ref C) := ⟨⟨.ref C, _, h, rfl, fun _ => .ref C⟩⟩
end DL
namespace DL
open PySem PySem.Spec L2 C8
end DL
namespace L2
open PySem PySem.Spec PyProof.Rows
mutual
/-- a pattern of texts: none takes all -/
inductive PatOk : Pattern → Option (List Str) → Prop
  | val {w : Str} {j p q} : PatOk (.MatchValue (.Constant (.str w) j p) q) (some [w])
  | or {ps : List Pattern} {ws : List Str} {q} (h : PatsOk ps ws) : PatOk (.MatchOr ps q) (some ws)
  | any {q} : PatOk (.MatchAs none none q) none
inductive PatsOk : List Pattern → List Str → Prop
  | nil : PatsOk [] []
  | cons {w : Str} {j p q} {ps : List Pattern} {ws : List Str} (h : PatsOk ps ws) : PatsOk (.MatchValue (.Constant (.str w) j p) q :: ps) (w :: ws)
end
def takesW : Option (List Str) → Str → Bool
  | none, _ => true
  | some ws, x => ws.any fun w => decide (x = w)
inductive CasesOk (X : Cx) : List MatchCase → List (Option (List Str) × TS) → Prop
  | nil : CasesOk X [] []
  | cons {p : Pattern} {o : Option (List Str)} {body : List Stmt} {t : TS} {rest : List MatchCase} {l : List (Option (List Str) × TS)} (hp : PatOk p o) (hb : PSs X body t) (r : CasesOk X rest l) : CasesOk X (⟨p, none, body⟩ :: rest) ((o, t) :: l)
end L2
namespace DL
open PySem PySem.Spec L2
/-- the cases of a match over a text -/
def pickM : List (Option (List Str) × WS) → Str → WS
  | [], _ => wSkip
  | (o, s) :: r, w => fun D ρ h => if takesW o w = true then s D ρ h else pickM r w D ρ h
section
variable {X : Cx} {E : XK} {e : Expr} {we : WE} {pos : Pos}
inductive ACs (X : Cx) (E : XK) : List MatchCase → List (Option (List Str) × WS) → Prop
  | nil : ACs X E [] []
  | cons {p : Pattern} {o : Option (List Str)} {body : List Stmt} {t : WS} {rest : List MatchCase} {l : List (Option (List Str) × WS)} (hp : PatOk p o) (hb : ASs X E body t) (r : ACs X E rest l) : ACs X E (⟨p, none, body⟩ :: rest) ((o, t) :: l)
theorem ACs.cs {cs : List MatchCase} {l : List (Option (List Str) × WS)} (h : ACs X E cs l) : CasesOk X cs (l.map fun x => (x.1, tS X.K E x.2)) := by
  induction h with
  | nil => exact .nil
  | cons hp hb r ih => exact .cons hp hb.run ih
theorem ACs.mo {cs : List MatchCase} {l : List (Option (List Str) × WS)} (h : ACs X E cs l) : ∀ w, MoS (pickM l w) := by
  induction h with
  | nil => intro w D D' ρ h l q; exact l.nx _ _ q
  | @cons p o body t rest l hp hb r ih =>
    intro w D D' ρ h le q
    unfold pickM at q ⊢
    by_cases c : takesW o w = true
    · rw [if_pos c] at q ⊢; exact hb.mo _ _ _ _ le q
    · rw [if_neg c] at q ⊢; exact ih w _ _ _ _ le q
end
end DL
namespace DL
open PySem PySem.Spec L2 C8
/-! ### two ways to read one thing (an instance of one class or of another) -/
def wOrE (a b : WE) : WE := fun ρ h Q X => a ρ h Q X ∨ b ρ h Q X
def wOrS (a b : WS) : WS := fun D ρ h => a D ρ h ∨ b D ρ h
section
variable {X : Cx} {E : XK} {e : Expr} {st : Stmt} {a b : WE} {s1 s2 : WS}
theorem AE.or (h1 : AE X E e a) (h2 : AE X E e b) : AE X E e (wOrE a b) := by
  refine ⟨⟨fun pins s σ H Q I h => ?_⟩, fun ρ h Q Q' X X' hq hx q => q.elim (fun q => .inl (h1.mo _ _ _ _ _ _ hq hx q)) (fun q => .inr (h2.mo _ _ _ _ _ _ hq hx q))⟩
  obtain ⟨F, ρ, g, S, R, q⟩ := h
  rcases q with q | q
  · exact h1.run.run pins s σ H Q I ⟨F, ρ, g, S, R, q⟩
  · exact h2.run.run pins s σ H Q I ⟨F, ρ, g, S, R, q⟩
theorem AS.or (h1 : AS X E st s1) (h2 : AS X E st s2) : AS X E st (wOrS s1 s2) := by
  refine ⟨⟨fun pins s σ H D I h => ?_⟩, fun D D' ρ h l q => q.elim (fun q => .inl (h1.mo _ _ _ _ l q)) (fun q => .inr (h2.mo _ _ _ _ l q))⟩
  obtain ⟨F, ρ, g, S, R, q⟩ := h
  rcases q with q | q
  · exact h1.run.run pins s σ H D I ⟨F, ρ, g, S, R, q⟩
  · exact h2.run.run pins s σ H D I ⟨F, ρ, g, S, R, q⟩
end
/-! ### starred parts -/
end DL
namespace DL
open PySem PySem.Spec L2 C8
/-- where the package's classes stand -/
structure Ad where
  Program : Addr := 0
  LineProgram : Addr := 0
  Walk : Addr := 0
  Ledger : Addr := 0
  Lengths : Addr := 0
  Kind : Addr := 0
  Machine : Addr := 0
  LateMachine : Addr := 0
  Trial : Addr := 0
  Group : Addr := 0
  Ground : Addr := 0
  BodyReader : Addr := 0
  Meter : Addr := 0
  Change : Addr := 0
  Desk : Addr := 0
  Account : Addr := 0
  EchoError : Addr := 0
  SizeError : Addr := 0
  AbsentError : Addr := 0
  InvalidProgram : Addr := 0
  InvalidMode : Addr := 0
  InvalidNumber : Addr := 0
  InvalidCapacity : Addr := 0
  InvalidRow : Addr := 0
  InvalidTable : Addr := 0
  InvalidAccount : Addr := 0
  InvalidReading : Addr := 0
  InvalidBound : Addr := 0
  InvalidText : Addr := 0
  Lossy : Addr := 0
  DifferentModes : Addr := 0
  Contradiction : Addr := 0
  UnknownCommand : Addr := 0
  TooLarge : Addr := 0
  TooLong : Addr := 0
  TooManyProcesses : Addr := 0
  Full : Addr := 0
  NoPlace : Addr := 0
  NoPoint : Addr := 0
  NoReading : Addr := 0
  NoName : Addr := 0
  NothingToUndo : Addr := 0
  Finished : Addr := 0
  t0 : Addr := 0
  t1 : Addr := 0
  t2 : Addr := 0
  t3 : Addr := 0
  t4 : Addr := 0
  t5 : Addr := 0
  t6 : Addr := 0
  t7 : Addr := 0
  t8 : Addr := 0
  t9 : Addr := 0
  t10 : Addr := 0
  t11 : Addr := 0
  t12 : Addr := 0
  t13 : Addr := 0
  t14 : Addr := 0
  t15 : Addr := 0
end DL
/-! exceptions as values: isinstance, fields; counts and places in lists of bools -/
namespace DL
open PySem PySem.Spec L2 C8 PyProof.Rows
/-- what a kept exception's class must say -/
structure XVal (K : PySem.W.Frag) (C : Addr) : Prop where
  ga : PySem.W.findIn K (.ref C) "__getattribute__" = some (some (.builtin "BaseException.__getattribute__"))
  gg : PySem.W.findIn K (.ref C) "__getattr__" = some none
  sb : PySem.W.subIn K (.ref C) (.type "BaseException") = some true
  hd : PySem.W.hasDictIn K C = true
  cl : PySem.W.findIn K (.ref C) "__class__" = some (some (.builtin "object.__class__"))
  nn : PySem.W.specialIn K (.builtin "object.__class__") "__get__" = some (some (.builtin "getset_descriptor.__get__"))
  tk : PySem.W.takesIn K (.builtin "object.__class__") = some true
  mo : PySem.W.mroIn K C (.type "object") = some true
theorem XVal.is {K : PySem.W.Frag} {C : Addr} (T : XVal K C) : (PySem.W.clsIn K C).isSome = true := by
  obtain ⟨cd, hc, _⟩ := PySem.W.any_some T.hd
  rw [hc]; rfl
theorem XVal.kit {K : PySem.W.Frag} {C x : Addr} {ox : Obj} {od : Option Obj} (T : XVal K C) : PySem.W.KitX K (.ref x) (.ref C) (fun h => PySem.W.InstAt h x ox C od) := PySem.W.kitx_exc T.is T.ga T.gg T.sb T.cl T.nn T.tk T.mo
/-- the kept exception at a, with its fields -/
def KeptX (H : Hp) (a C : Addr) (fs : List (Str × V)) : Prop := (H a = some (exV a C none) ∧ fs = []) ∨ ∃ dd, H a = some (exV a C (some dd)) ∧ H dd = some (.xd fs)
theorem exv_at {P : Program} {w : World} {H : Hp} {h : Heap} {a C : Addr} {d : Option Addr} (hok : HOk P w H h) (e : H a = some (exV a C d)) : ∃ (oe : Obj) (vs : Array Value), h.get? a = some oe ∧ Zc (.ref C) d oe ∧ oe.data = .fields vs := by
  have x : ObjOk P w H h a (.ext fun h => ∃ (oe : Obj) (vs : Array Value), h.get? a = some oe ∧ Zc (.ref C) d oe ∧ oe.data = .fields vs) := hok a _ e
  exact x.1
theorem kept_inst {X : Cx} {pins : List (Addr × Obj)} {σ : L2.St} {H : Hp} {s : Shared} {a C : Addr} {fs : List (Str × V)} (I : Inv X pins σ H s) (k : KeptX H a C fs) : ∃ oe od, PySem.W.InstAt s.heap a oe C od ∧
    ∀ f v, fs.lookup f = some v → ∃ o u, od = some o ∧ RelV v u ∧ PySem.W.lookIn f o = some (some u) := by
  rcases k with ⟨e, rfl⟩ | ⟨dd, e, ed⟩
  · obtain ⟨oe, vs, g, hz, hd⟩ := exv_at I.hok e
    exact ⟨oe, none, ⟨g, hz.1, by unfold PySem.W.notCls; rw [hd] <;> rfl, by rw [hz.2]; trivial⟩, fun f v h => by cases h⟩
  · obtain ⟨oe, vs, g, hz, hd⟩ := exv_at I.hok e
    have hx : ObjOk X.prog X.w H s.heap dd (.xd fs) := I.hok dd _ ed
    obtain ⟨mA, hns, hr⟩ := hx
    obtain ⟨od, ho, hl⟩ := lookIn_ns hns
    refine ⟨oe, some od, ⟨g, hz.1, by unfold PySem.W.notCls; rw [hd] <;> rfl, by rw [hz.2]; exact ho⟩, fun f v h => ?_⟩
    obtain ⟨u, hu, ru⟩ := RelO.some_of (v := v) (o := mA f) (by rw [← h]; exact hr f)
    exact ⟨od, u, rfl, ru, by rw [hl, hu]⟩
theorem rep_kept {K : PySem.W.Frag} {F : Hp} {h : AH} {H : Hp} {C : Addr} {fs : List (Str × D)} {v : V} (S : Sim K F h H) (r : Rep K F (.xob C fs) v) : ∃ a vs, v = .ref a ∧ KeptX H a C vs ∧ RepF K F fs vs := by
  cases r with
  | xob0 e => exact ⟨_, [], rfl, .inl ⟨S.fz _ _ e, rfl⟩, .nil⟩
  | xob e ed rf => exact ⟨_, _, rfl, .inr ⟨_, S.fz _ _ e, S.fz _ _ ed⟩, rf⟩
/-! ### isinstance -/
def rIsX (K : PySem.W.Frag) : List V → Hp → VK → Prop := fun xs H Q => ∃ (a C : Addr) (fs : List (Str × V)) (c : V) (cv : Value) (b : Bool), xs = [.ref a, c] ∧ KeptX H a C fs ∧ XVal K C ∧ ClsV c cv ∧ PySem.W.kitOne K (.ref C) cv = some b ∧ Q (.bl b) H
def rIsXT (K : PySem.W.Frag) : List V → Hp → VK → Prop := fun xs H Q => ∃ (a C tp : Addr) (fs : List (Str × V)) (cs : List V) (ws : List Value) (b : Bool), xs = [.ref a, .ref tp] ∧ KeptX H a C fs ∧ XVal K C ∧ SqT K H tp cs ∧ Paired ClsV cs ws ∧ PySem.W.kitAny K (.ref C) ws = some b ∧ Q (.bl b) H
theorem call_isX {X : Cx} : CallR X (.builtin "isinstance") (rIsX X.K) := by
  intro pins s σ H xs us Q I r h
  obtain ⟨a, C, fs, c, cv, b, rfl, k, T, kc, e, q⟩ := h
  obtain ⟨u1, u2, rfl, r1, r2⟩ := vals2 r
  obtain rfl : u1 = Value.ref a := r1
  have e2 := kc.eq r2
  subst e2
  obtain ⟨oe, od, J, _⟩ := kept_inst I k
  exact PySem.W.kia_one T.kit I.kIn J e (fun z => nomatch z) fun tk => ⟨.bl b, H, I.tok tk, rfl, q⟩
theorem call_isXT {X : Cx} : CallR X (.builtin "isinstance") (rIsXT X.K) := by
  intro pins s σ H xs us Q I r h
  obtain ⟨a, C, tp, fs, cs, ws, b, rfl, k, T, hq, kc, e, q⟩ := h
  obtain ⟨u1, u2, rfl, r1, r2⟩ := vals2 r
  obtain rfl : u1 = Value.ref a := r1
  obtain rfl : u2 = Value.ref tp := r2
  obtain ⟨oe, od, J, _⟩ := kept_inst I k
  obtain ⟨its, rv, ⟨o, h1, h2, n, h3⟩, _⟩ := I.tuple hq
  have e3 := ClsV.all kc rv
  subst e3
  obtain ⟨oc, od2, dt, sl⟩ := o
  simp only at h2 h3
  subst h2 h3
  exact PySem.W.kia_tup T.kit I.kIn J h1 e (fun z => nomatch z) fun tk => ⟨.bl b, H, I.tok tk, rfl, q⟩
/-- a class as data -/
inductive ClsD : D → V → Value → Prop where
  | ty (n : String) : ClsD (.ty n) (.ty n) (.type n)
  | own (C : Addr) : ClsD (.ref C) (.ref C) (.ref C)
theorem ClsD.v {d : D} {v : V} {u : Value} (k : ClsD d v u) : ClsV v u := by
  cases k with
  | ty n => exact .ty n
  | own C => exact .own C
theorem ClsD.rep {K : PySem.W.Frag} {F : Hp} {d : D} {v w : V} {u : Value} (k : ClsD d v u) (r : Rep K F d w) : w = v := by
  cases k with
  | ty n => cases r; rfl
  | own C => cases r; rfl
/-- whose instances are which -/
abbrev XTab := List (Addr × D × Bool)
def XTabOk (K : PySem.W.Frag) (M : XTab) : Prop := ∀ p ∈ M, XVal K p.1 ∧ ∃ v u, ClsD p.2.1 v u ∧ PySem.W.kitOne K (.ref p.1) u = some p.2.2
def dIsX (M : XTab) (ds : List D) (h : AH) (Q : KD) : Prop := ∃ C fs c b, ds = [.xob C fs, c] ∧ (C, c, b) ∈ M ∧ Q (.bl b) h
inductive IsAny (M : XTab) (C : Addr) : List D → Bool → Prop where
  | nil : IsAny M C [] false
  | cons {c : D} {b r : Bool} {cs : List D} (h : (C, c, b) ∈ M) (t : IsAny M C cs r) : IsAny M C (c :: cs) (b || r)
def dIsXT (M : XTab) (ds : List D) (h : AH) (Q : KD) : Prop := ∃ C fs cs b, ds = [.xob C fs, .tup cs] ∧ cs ≠ [] ∧ IsAny M C cs b ∧ Q (.bl b) h
theorem isAny_ok {K : PySem.W.Frag} {M : XTab} (ok : XTabOk K M) {C : Addr} {F : Hp} : ∀ {cs : List D} {b : Bool} {vs : List V}, IsAny M C cs b → Reps K F cs vs → ∃ ws, Paired ClsV vs ws ∧ PySem.W.kitAny K (.ref C) ws = some b
  | _, _, _, .nil, .nil => ⟨[], .nil, kitAny_nil⟩
  | _, _, _, .cons h t, .cons r rs => by
    obtain ⟨ws, p, e⟩ := isAny_ok ok t rs
    obtain ⟨_, v, u, k, ek⟩ := ok _ h
    have ev := k.rep r
    subst ev
    refine ⟨u :: ws, .cons k.v p, kitAny_cons ek (fun hb => ?_) fun hb => ?_⟩
    · have hb2 : _ = false := hb
      dsimp only at hb2
      rw [e, hb2, Bool.false_or]
    · have hb2 : _ = true := hb
      dsimp only at hb2
      rw [hb2, Bool.true_or]
section
variable {X : Cx}
theorem dIsX_ok {M : XTab} (ok : XTabOk X.K M) : CaD X (.builtin "isinstance") (dIsX M) where
  ex := ⟨_, call_isX, fun {F h H ds vs Q} S r q => by
    obtain ⟨C, fs, c, b, rfl, hm, q⟩ := q
    obtain ⟨v, w, rfl, r1, r2⟩ := r.two
    obtain ⟨a, us, rfl, k, _⟩ := rep_kept S r1
    obtain ⟨T, v2, u, kc, e⟩ := ok _ hm
    have ev := kc.rep r2
    subst ev
    exact ⟨a, C, us, _, u, b, rfl, k, T, kc.v, e, q.at S (.bl _)⟩⟩
  mo := fun {ds h Q Q'} hq ⟨C, fs, c, b, e, hm, q⟩ => ⟨C, fs, c, b, e, hm, hq _ _ q⟩
theorem dIsXT_ok {M : XTab} (ok : XTabOk X.K M) : CaD X (.builtin "isinstance") (dIsXT M) where
  ex := ⟨_, call_isXT, fun {F h H ds vs Q} S r q => by
    obtain ⟨C, fs, cs, b, rfl, ne, hm, q⟩ := q
    obtain ⟨v, w, rfl, r1, r2⟩ := r.two
    obtain ⟨a, us, rfl, k, _⟩ := rep_kept S r1
    cases r2 with
    | tup hs rs =>
      obtain ⟨ws, p, e⟩ := isAny_ok ok hm rs
      have T : XVal X.K C := by
        cases hm with
        | nil => exact absurd rfl ne
        | cons h _ => exact (ok _ h).1
      exact ⟨a, C, _, us, _, ws, b, rfl, k, T, sqt_of S.fz hs, p, e, q.at S (.bl _)⟩⟩
  mo := fun {ds h Q Q'} hq ⟨C, fs, cs, b, e, ne, hm, q⟩ => ⟨C, fs, cs, b, e, ne, hm, hq _ _ q⟩
/-! ### fields -/
def wXFld (Cs : List Addr) (f : Str) (we : WE) : WE := fun ρ h Q X => we ρ h (fun x h1 => ∃ C fs d, x = .xob C fs ∧ C ∈ Cs ∧ fs.lookup f = some d ∧ Q d h1) X
theorem ae_xfld {E : XK} {Cs : List Addr} {f : Str} {e : Expr} {we : WE} {pos : Pos} (ok : ∀ C ∈ Cs, XVal X.K C ∧ PySem.W.findIn X.K (.ref C) f = some none) (he : AE X E e we) (hb : attributeBase e f X.env (eval e X.env) = eval e X.env := by rfl) : AE X E (.Attribute e f pos) (wXFld Cs f we) := by
  refine ⟨⟨fun pins s σ H Q I hq => ?_⟩, fun ρ h Q Q' X X' hq hx q => he.mo _ _ _ _ _ _ (fun x h1 ⟨C, fs, d, e1, e2, e3, z⟩ => ⟨C, fs, d, e1, e2, e3, hq _ _ z⟩) hx q⟩
  obtain ⟨F, ρ, h, S, R, q⟩ := hq
  refine attr_of hb (thn (he.run.run pins s σ H (fun v H1 => ∃ (a C : Addr) (vs : List (Str × V)) (u : V), v = .ref a ∧ C ∈ Cs ∧ KeptX H1 a C vs ∧ vs.lookup f = some u ∧ Q u H1) I ⟨F, ρ, h, S, R, he.mo _ _ _ _ _ _ (fun x h1 z => ?_) (fun _ _ z => z) q⟩) fun u s1 hh => ?_)
  · obtain ⟨C, fs, d, rfl, hC, hl, z⟩ := z
    intro F1 H1 v e1 S1 r
    obtain ⟨a, us, rfl, k, rf⟩ := rep_kept S1 r
    obtain ⟨w, hw, rw'⟩ := rf.look hl
    exact ⟨a, C, us, w, rfl, hC, k, hw, z F1 H1 w e1 S1 rw'⟩
  · obtain ⟨v, H1, I1, r1, a, C, vs, w, rfl, hC, k, hl, z⟩ := hh
    obtain rfl : u = Value.ref a := r1
    obtain ⟨T, hno⟩ := ok C hC
    obtain ⟨oe, od, J, hf⟩ := kept_inst I1 k
    obtain ⟨o, u2, rfl, ru, hlk⟩ := hf f w hl
    exact HandSPX.exc_get I1.kIn J T.ga T.gg T.sb (PySem.W.findObj_own T.hd hno rfl hlk) (handed_of ru) ⟨w, H1, I1.tok _, ru, z⟩
/-! ### lists of bools -/
def rCntF (K : PySem.W.Frag) : V → List V → Hp → VK → Prop := fun x xs H Q => ∃ (a : Addr) (ys : List V) (y : V), x = V.ref a ∧ xs = [y] ∧ SqL K H a ys ∧ flatV y = true ∧ ys.all flatV = true ∧ Q (.int ((ys.countP fun z => eqV z y : Nat) : Int)) H
theorem count_flat {y : V} : ∀ {ys : List V} {us : List Value}, Vals ys us → ys.all flatV = true → us.countP (eqU y) = ys.countP fun z => eqV z y
  | _, _, .nil, _ => rfl
  | _, _, .cons r h, f => by
    rw [List.all_cons, Bool.and_eq_true] at f
    rw [List.countP_cons, List.countP_cons, count_flat h f.2, eqU_of r f.1]
theorem mt_countF : MtR X "list.count" (rCntF X.K) := by
  intro pins s σ H x xs v us Q I rx rxs h
  obtain ⟨p, ys, y, rfl, rfl, hs, fy, fys, q⟩ := h
  cases rx
  obtain ⟨u, rfl, ru⟩ := rxs.one
  obtain ⟨its, rv, ⟨⟨cls, dd, data, sl⟩, n, ho, hc, hdn, hd⟩, hlen⟩ := I.list hs
  simp only at hc hd
  subst hc hd
  refine call_meets PySem.F.slot_list_count ⟨_, ho, rfl⟩ PySem.F.entry_list_count (PySem.F.args_list_count_2 _ _) (SeqAt.list_countAt p its.toArray n dd sl u (eqU y)) ⟨ho, fun z hz => mem_eqAt ru fy rv fys z (by simpa using hz), ?_⟩
  refine ⟨.int (ys.countP fun z => eqV z y : Nat), H, I.tok _, ⟨s.toks, ?_⟩, q⟩
  rw [← count_flat rv fys]
end
def dCountB (x : D) (ys : List D) (h : AH) (Q : KD) : Prop := ∃ (bs : List Bool) (k : Bool), lstOf h x = some (bs.map D.bl) ∧ ys = [.bl k] ∧ Q (.int ((bs.countP fun b => b == k : Nat) : Int)) h
def dIndexB (x : D) (ys : List D) (h : AH) (Q : KD) : Prop := ∃ (bs : List Bool) (k : Bool) (j : Nat), lstOf h x = some (bs.map D.bl) ∧ ys = [.bl k] ∧ bs.findIdx? (fun b => b == k) = some j ∧ Q (.int (j : Nat)) h
theorem reps_bl {K : PySem.W.Frag} {F : Hp} : ∀ {bs : List Bool} {vs : List V}, Reps K F (bs.map D.bl) vs → vs = bs.map V.bl
  | [], _, .nil => rfl
  | b :: bs, _, .cons r t => by cases r; rw [List.map_cons, reps_bl t]
theorem flat_bl : ∀ {bs : List Bool}, (bs.map V.bl).all flatV = true
  | [] => rfl
  | b :: bs => by rw [List.map_cons, List.all_cons, flat_bl]; rfl
theorem dCountB_ok {K : PySem.W.Frag} : MeD K "list" (rCntF K) dCountB isL where
  ty := isL_ty
  mo := fun hq ⟨bs, k, e1, e2, q⟩ => ⟨bs, k, e1, e2, hq _ _ q⟩
  to := by
    rintro F h H x ys vx vs Q S rx rs ⟨bs, k, e, rfl, q⟩
    obtain ⟨a, us, rfl, ha, ru⟩ := S.lstOf rx e
    obtain rfl := reps_bl ru
    cases rs with
    | cons r rs =>
      cases rs
      cases r
      refine ⟨a, _, .bl k, rfl, rfl, .of ha, rfl, flat_bl, ?_⟩
      have ec : (bs.map V.bl).countP (fun z => eqV z (.bl k)) = bs.countP fun b => b == k := by
        rw [List.countP_map]; rfl
      rw [ec]
      exact q F H _ (.refl F) S (.int _)
theorem dIndexB_ok {K : PySem.W.Frag} : MeD K "list" (rIndex K) dIndexB isL where
  ty := isL_ty
  mo := fun hq ⟨bs, k, j, e1, e2, e3, q⟩ => ⟨bs, k, j, e1, e2, e3, hq _ _ q⟩
  to := by
    rintro F h H x ys vx vs Q S rx rs ⟨bs, k, j, e, rfl, hj, q⟩
    obtain ⟨a, us, rfl, ha, ru⟩ := S.lstOf rx e
    obtain rfl := reps_bl ru
    obtain ⟨hl, h1, h2⟩ := List.findIdx?_eq_some_iff_getElem.mp hj
    cases rs with
    | cons r rs =>
      cases rs
      cases r
      refine ⟨a, _, .bl k, j, .bl bs[j], rfl, rfl, .of ha, rfl, flat_bl, ?_, h1, fun m z' hm hz => ?_, q F H _ (.refl F) S (.int _)⟩
      · rw [List.getElem?_map, List.getElem?_eq_getElem hl]; rfl
      · have lm : m < bs.length := Nat.lt_trans hm hl
        rw [List.getElem?_map, List.getElem?_eq_getElem lm] at hz
        obtain rfl := Option.some.inj hz
        have z := h2 m hm
        exact Bool.eq_false_iff.mpr z
section
variable {X : Cx} {E : XK} {o e : Expr} {wo : WE} {wl : WA} {apos cpos : Pos}
theorem ae_countB (ho : AE X E o wo) (ha : AA X E [e] wl) (hbase : attributeBase o "count" X.env (eval o X.env) = eval o X.env := by rfl)
    (hfew : ((backTo cpos (starEach [e] X.env)).all (fun x => !x.1) && (backToKw cpos (keywordEach [] X.env)).all (fun x => x.1.isSome) && decide ([e].length + ([] : List Keyword).length + (if ([] : List Keyword).isEmpty then 0 else 1) < 30)) = true := by rfl)
    (hline : (apos.endLine == cpos.line) = true := by rfl) (hs : starEach [e] X.env = (false, eval e X.env) :: starEach [] X.env := by rfl) (hplain : (backTo cpos (starEach [] X.env)).any (·.1) = false := by rfl) :
    AE X E (.Call (.Attribute o "count" apos) [e] [] cpos) (wMethT isL dCountB wo wl) :=
  ae_bm dCountB_ok mt_countF PySem.F.plainAttrs_list PySem.F.slot_list_count PySem.F.type_list_count ho ha hbase hfew hline hs hplain
theorem ae_indexB (ho : AE X E o wo) (ha : AA X E [e] wl) (hbase : attributeBase o "index" X.env (eval o X.env) = eval o X.env := by rfl)
    (hfew : ((backTo cpos (starEach [e] X.env)).all (fun x => !x.1) && (backToKw cpos (keywordEach [] X.env)).all (fun x => x.1.isSome) && decide ([e].length + ([] : List Keyword).length + (if ([] : List Keyword).isEmpty then 0 else 1) < 30)) = true := by rfl)
    (hline : (apos.endLine == cpos.line) = true := by rfl) (hs : starEach [e] X.env = (false, eval e X.env) :: starEach [] X.env := by rfl) (hplain : (backTo cpos (starEach [] X.env)).any (·.1) = false := by rfl) :
    AE X E (.Call (.Attribute o "index" apos) [e] [] cpos) (wMethT isL dIndexB wo wl) :=
  ae_bm dIndexB_ok mt_index PySem.F.plainAttrs_list PySem.F.slot_list_index PySem.F.type_list_index ho ha hbase hfew hline hs hplain
end
/-! ### list(range(n)) -/
end DL
namespace DL
open PySem PySem.Spec L2 C8 PyProof.Rows
end DL
/-! x == y and x != y by a written __eq__ -/
namespace DL
open PySem PySem.Spec L2 C8 PyProof.Rows
end DL
/-! methods called by keywords; methods whose last parameter has a default -/
namespace DL
open PySem PySem.Spec L2 C8
section
variable {X : Cx} {E : XK} {gz gy : Bool} {k j : Nat} {o e : Expr} {es : List Expr} {kws : List Keyword} {wo : WE} {wl wk : WA} {pos apos : Pos} {m : Str} {C f : Addr} {S : FSpec} {fd : FuncData} {ps ks : List Str} {gg : List D → List D → List D}
/-- o.m(k = e) -/
def wMetK (C : Addr) (m : Str) (S : FSpec) (l : Nat) (gg : List D → List D → List D) (wo : WE) (wk : WA) : WE := fun ρ h Q X => wo ρ h (fun x h1 => ∃ fs, insOf h1 x = some (C, fs) ∧ fs.lookup m = none ∧ wk ρ h1 (fun zs h2 => zs.length = l ∧ S (gg [x] zs) h2 Q X) X) X
theorem ae_metK {pl : Sem Bool} {l : Nat} (c : Cg gz X E k) (cc : Cls X.K C) (hm : Meth X.K C m f) (G : FnG gy X.prog X.w X.K X.mg X.base j f fd ps S) (B : Bnd X.K fd ps 1 ks gg) (hj : j ≤ k) (hz : gy = true → gz = true) (ho : AE X E o wo) (hkw : AK X E kws wk) (hl : ks.length = l := by rfl)
    (hall : (backToKw pos (keywordEach kws X.env)).all (·.1.isSome) = true := by rfl) (hks : (backToKw pos (keywordEach kws X.env)).filterMap (·.1) = ks := by rfl)
    (hpl : ((backTo pos (starEach [] X.env)).any (·.1) || (backToKw pos (keywordEach kws X.env)).any (·.1.isNone)) = false := by rfl)
    (ht : eval (.Call (.Attribute o m apos) [] kws pos) X.env = (do let ov ← eval o X.env; standAt apos.atName; let (f, first) ← holding [ov] (getMethod ov m pl); callWith pos f first (backTo pos (starEach [] X.env)) (backToKw pos (keywordEach kws X.env))) := by rfl) : AE X E (.Call (.Attribute o m apos) [] kws pos) (wMetK C m S l gg wo wk) := by
  refine ⟨⟨fun pins s σ H Q I hq => ?_⟩, fun ρ h Q Q' X X' hq hx q => ho.mo _ _ _ _ _ _ (fun x h1 ⟨fs, e1, e2, z⟩ => ⟨fs, e1, e2, hkw.mo _ _ _ _ _ _ (fun zs h2 z => ⟨z.1, G.mo _ _ _ _ _ _ hq hx z.2⟩) hx z⟩) hx q⟩
  obtain ⟨F, ρ, h, S0, R, q⟩ := hq
  refine PySem.W.methodCall_KW (pl := pl) (thn (ho.run.run pins s σ H (fun v H1 => ∃ F1 h1 x fs, Ext F F1 ∧ Sim X.K F1 h1 H1 ∧ Rep X.K F1 x v ∧ insOf h1 x = some (C, fs) ∧ fs.lookup m = none ∧ wk ρ h1 (fun zs h2 => zs.length = l ∧ S (gg [x] zs) h2 (LQ X.K F1 Q) (LX X.K F1 E)) (LX X.K F1 E)) I
    ⟨F, ρ, h, S0, R, ho.mo _ _ _ _ _ _ (fun x h1 z F1 H1 v e1 S1 r => ?_) (fun _ _ z => z) q⟩) fun u s1 hh => ?_) ht
  · obtain ⟨fs, ei, el, z⟩ := z
    exact ⟨F1, h1, x, fs, e1, S1, r, ei, el, hkw.mo _ _ _ _ _ _ (fun zs h2 z => ⟨z.1, G.mo _ _ _ _ _ _ (fun _ _ z => LQ.ext e1 z) (fun _ _ z => LX.ext e1 z) z.2⟩) (fun _ _ z => LX.ext e1 z) z⟩
  obtain ⟨v, H1, I1, rv, F1, h1, x, fs, e1, S1, r, ei, el, z⟩ := hh
  obtain ⟨a, dx, vs, rfl, ha, rf⟩ := S1.insOf r ei
  obtain rfl : u = Value.ref a := rv
  refine getmeth_ok I1 ha cc hm (rf.no el) ?_
  refine PySem.W.callWith_KW0 (first := [.ref a]) (h₀ := X.base) I.ok.mod.kin hm.kp hall
    (thn (hkw.run.run pos pins s1 σ H1 (fun ys H2 => ∃ F2 h2 zs, Ext F1 F2 ∧ Sim X.K F2 h2 H2 ∧ Reps X.K F2 zs ys ∧ zs.length = l ∧ S (gg [x] zs) h2 (LQ X.K F2 Q) (LX X.K F2 E)) I1
      ⟨F1, ρ, h1, S1, R.ext e1, hkw.mo _ _ _ _ _ _ (fun zs h2 q2 F2 H2 ys e2 S2 rz => ⟨F2, h2, zs, e2, S2, rz, q2.1, G.mo _ _ _ _ _ _ (fun _ _ z => LQ.ext e2 z) (fun _ _ z => LX.ext e2 z) q2.2⟩) (fun _ _ z => z) z⟩) fun ws s2 hh => ?_) hpl
  obtain ⟨ys, H2, I2, r2, F2, h2, zs, e2, S2, rz, l2, q2⟩ := hh
  refine ⟨I2.kIn, ?_⟩
  rw [hks]
  obtain ⟨xs, ts, rx, rt, bt⟩ := B.to s2 F2 [x] zs [V.ref a] ys [Value.ref a] ws I2.kIn rfl (l2.trans hl.symm) (.cons (r.ext e2) .nil) (.cons rfl .nil) rz r2
  exact wpAny_call (codeAny_mono (run_g (c.mono hj) G hz I2 bt rt ⟨F2, _, h2, S2, rx, q2⟩) fun r s' hr => by
    match r, hr with
    | .error _, hr => exact hr
    | .ok (.ret _), hr => exact hr)
end
/-! ### a default behind the parameters that are written -/
section
variable (P : Program) (w : World) (K : PySem.W.Frag) (mg : Str → Option Value) (base : Heap)
/-- a method called by keywords -/
structure MetKC (C : Addr) (m : Str) (k : Nat) (ks : List Str) (gg : List D → List D → List D) (S : FSpec) : Prop where
  cl : Cls K C
  ex : ∃ f fd ps, Meth K C m f ∧ FnG false P w K mg base k f fd ps S ∧ Bnd K fd ps 1 ks gg
end
section
variable {X : Cx} {E : XK} {gz : Bool} {k j : Nat} {o : Expr} {kws : List Keyword} {wo : WE} {wk : WA} {pos apos : Pos} {m : Str} {C : Addr} {S : FSpec} {ks : List Str} {gg : List D → List D → List D}
theorem ag_metK {pl : Sem Bool} {l : Nat} (c : Cg gz X E k) (R : MetKC X.prog X.w X.K X.mg X.base C m j ks gg S) (hj : j ≤ k) (ho : AE X E o wo) (hkw : AK X E kws wk) (hl : ks.length = l := by rfl)
    (hall : (backToKw pos (keywordEach kws X.env)).all (·.1.isSome) = true := by rfl) (hks : (backToKw pos (keywordEach kws X.env)).filterMap (·.1) = ks := by rfl)
    (hpl : ((backTo pos (starEach [] X.env)).any (·.1) || (backToKw pos (keywordEach kws X.env)).any (·.1.isNone)) = false := by rfl)
    (ht : eval (.Call (.Attribute o m apos) [] kws pos) X.env = (do let ov ← eval o X.env; standAt apos.atName; let (f, first) ← holding [ov] (getMethod ov m pl); callWith pos f first (backTo pos (starEach [] X.env)) (backToKw pos (keywordEach kws X.env))) := by rfl) : AE X E (.Call (.Attribute o m apos) [] kws pos) (wMetK C m S l gg wo wk) := by
  obtain ⟨f, fd, ps, h1, h2, h3⟩ := R.ex
  exact ae_metK (pl := pl) c R.cl h1 h2 h3 hj (fun z => Bool.noConfusion z) ho hkw hl hall hks hpl ht
end
section
variable {ρ : EnvD} {h : AH} {Q : KD} {X : KX} {C : Addr} {m : Str} {S : FSpec} {l n : Nat} {gg : List D → List D → List D} {wo : WE} {wk : WA} {ds : List D}
theorem u_metK : wMetK C m S l gg wo wk ρ h Q X = wo ρ h (fun x h1 => ∃ fs, insOf h1 x = some (C, fs) ∧ fs.lookup m = none ∧ wk ρ h1 (fun zs h2 => zs.length = l ∧ S (gg [x] zs) h2 Q X) X) X := rfl
end
/-! ### cls(e, ..) -/
end DL
/-! instances called by keywords -/
namespace DL
open PySem PySem.Spec L2 C8
end DL
/-! classmethods called by keywords -/
namespace DL
open PySem PySem.Spec L2 C8
end DL
namespace DL
open PySem PySem.Spec L2 C8 PyProof.Rows
/-! ### the truth of an instance, by its __len__ -/
section
variable {prog : Program} {w : World} {A : Around} {E : Value → Shared → Prop} {s : Shared} {K : PySem.W.Frag} {x C f : Addr} {ox : Obj} {odd : Option Obj}
theorem len_own {Q : Value → Shared → Prop} (X : K.In s.heap) (I : PySem.W.InstAt s.heap x ox C odd) (hs : PySem.W.findIn K (.ref C) "__len__" = some (some (.ref f))) (hf : PySem.W.isFn K (.ref f) = true)
    (h : wpAny (model prog w) A (call (.ref f) [.ref x]) (fun r s1 => ∃ (n : Nat) (t : Tok), r = Value.int n t ∧ n < 2 ^ 62 ∧ ∀ t tk, Q (.int n t) { s1 with toks := tk }) E s) :
    wpAny (model prog w) A (Builtin.«len» ⟨[.ref x], []⟩) (fun fin s' => ∃ r, fin = .done (.ret r) ∧ Q r s') E s := by
  unfold Builtin.«len»
  refine wpAny_bind (m := oneArg "len" _) (wpAny_pure ?_)
  refine wpAny_bind (m := callSpecial? (.ref x) (Str.ofString "__len__")) (PySem.W.special_fn X I hs (beq_iff_eq.mp hf) (wpAny_mono h (fun r s' hr => ?_) fun _ _ y => y))
  obtain ⟨n, u, rfl, hn, hq⟩ := hr
  refine wpAny_bind (wpAny_holding (wpAny_pure ?_))
  refine wpAny_bind (wpAny_letGo ?_)
  show wpAny _ _ (if ((n : Nat) : Int) < 0 then _ else _) _ _ _
  rw [if_neg (by omega)]
  show wpAny _ _ (if ((n : Nat) : Int) ≥ 2 ^ 63 then _ else _) _ _ _
  rw [if_neg (by omega)]
  exact wpAny_bind (wpAny_mkInt (wpAny_pure ⟨_, rfl, hq _ _⟩))
end
section
variable (P : Program) (w : World) (K : PySem.W.Frag) (mg : Str → Option Value) (base : Heap)
structure LenC (C : Addr) (k : Nat) (S : FSpec) : Prop where
  ex : ∃ g, PySem.W.findIn K (.ref C) "__bool__" = some none ∧ PySem.W.findIn K (.ref C) "__len__" = some (some (.ref g)) ∧ PySem.W.isFn K (.ref g) = true ∧ FnRD P w K mg base k g S
  mo : MoF S
end
end DL
namespace DL
open PySem PySem.Spec L2 C8 PyProof.Rows
/-! ### operators of own classes whose defs may raise: x[y], y in x -/
section
variable {prog : Program} {w : World} {A : Around} {E : Value → Shared → Prop} {s : Shared} {K : PySem.W.Frag} {x C f : Addr} {ox : Obj} {odd : Option Obj} {v : Value}
theorem in_own {Q : Bool → Shared → Prop} (X : K.In s.heap) (I : PySem.W.InstAt s.heap x ox C odd) (hs : PySem.W.findIn K (.ref C) "__contains__" = some (some (.ref f))) (hf : PySem.W.isFn K (.ref f) = true)
    (h : wpAny (model prog w) A (call (.ref f) [.ref x, v]) (fun r s1 => ∃ b, r = Value.bool b ∧ Q b s1) E s) : wpAny (model prog w) A (contains (.ref x) v) Q E s := by
  have hsp : ∀ {Q' : Option Value → Shared → Prop}, Q' (some (.ref f)) s → wpAny (model prog w) A (specialOf (.ref x) "__contains__") Q' E s := fun q => by
    unfold specialOf
    exact wpAny_bind (I.type.here ((PySem.W.looks_findIn X hs).here q))
  unfold contains
  refine wpAny_holding ?_
  have no : stdlibNamesSay? (.ref x) v = none := by cases v <;> rfl
  rw [no]
  try dsimp only
  refine wpAny_bind (hsp ?_)
  rw [show ((some (Value.ref f) == some Value.none) = false) from rfl]
  try simp only [Bool.false_eq_true, if_false]
  have X2 := X
  have hb : ∀ {Q' : Value × List Value → Shared → Prop} {s' : Shared}, K.In s'.heap → Q' (.ref f, [.ref x]) s' → wpAny (model prog w) A (bindSpecial (.ref f) (.ref x)) Q' E s' := fun X q => (PySem.W.bind_fn X _ (beq_iff_eq.mp hf)).here q
  refine wpAny_bind ?_
  unfold callSpecialUnlessNone?
  refine wpAny_bind (hsp ?_)
  refine wpAny_holding (wpAny_bind (hb X ?_))
  show wpAny _ A (if (Value.ref f == Value.none) = true then _ else _) _ E s
  rw [if_neg (by rw [show (Value.ref f == Value.none) = false from rfl]; decide)]
  refine wpAny_bind (wpAny_mono h (fun r s' hr => ?_) fun _ _ z => z)
  obtain ⟨b, rfl, q⟩ := hr
  exact wpAny_pure (wpAny_truthy_bool q)
end
def wIxX (C : Addr) (S : FSpec) (wa wb : WE) : WE := fun ρ h Q X => wa ρ h (fun x h1 => wb ρ h1 (fun y h2 => isI C x h2 ∧ S [x, y] h2 Q X) X) X
def wInX (neg : Bool) (C : Addr) (S : FSpec) (wa wb : WE) : WE := fun ρ h Q X => wa ρ h (fun x h1 => wb ρ h1 (fun y h2 => isI C y h2 ∧ S [y, x] h2 (fun d h3 => ∃ b, d = .bl b ∧ Q (.bl (if neg = true then !b else b)) h3) X) X) X
section
variable (P : Program) (w : World) (K : PySem.W.Frag) (mg : Str → Option Value) (base : Heap)
structure InC (C : Addr) (k : Nat) (S : FSpec) : Prop where
  ex : ∃ g, PySem.W.findIn K (.ref C) "__contains__" = some (some (.ref g)) ∧ PySem.W.isFn K (.ref g) = true ∧ FnRD P w K mg base k g S
  mo : MoF S
end
section
variable {X : Cx} {E : XK} {gz : Bool} {k j : Nat} {a b : Expr} {wa wb : WE} {C g : Addr} {S : FSpec} {pos : Pos}
/-- an operator of two values that may raise -/
structure OpXD (K : PySem.W.Frag) (E : XK) (r : R2) (f : D → D → AH → KD → KX → Prop) : Prop where
  to : ∀ {F h H x y vx vy Q}, Sim K F h H → Rep K F x vx → Rep K F y vy → f x y h (LQ K F Q) (LX K F E) → r vx vy H Q
  mo : ∀ {x y h Q Q' X X'}, (∀ d h, Q d h → Q' d h) → (∀ d h, X d h → X' d h) → f x y h Q X → f x y h Q' X'
theorem twoX {r : R2} {f : D → D → AH → KD → KX → Prop} (ok : OpXD X.K E r f) (ha : AE X E a wa) (hb : AE X E b wb) {σ : L2.St} {H : Hp} {Q : VK}
    (h : tE X.K E (fun ρ h Q X => wa ρ h (fun x h1 => wb ρ h1 (fun y h2 => f x y h2 Q X) X) X) σ H Q) : tOp r (tE X.K E wa) (tE X.K E wb) σ H Q := by
  obtain ⟨F, ρ, g, S, R, q⟩ := h
  refine ⟨F, ρ, g, S, R, ha.mo _ _ _ _ _ _ (fun x h1 hx => ?_) (fun _ _ z => z) q⟩
  intro F1 H1 vx e1 S1 rx
  refine ⟨F1, ρ, h1, S1, R.ext e1, hb.mo _ _ _ _ _ _ (fun y h2 hf => ?_) (fun _ _ z => LX.ext e1 z) hx⟩
  intro F2 H2 vy e2 S2 ry
  exact ok.to S2 (rx.ext e2) ry (ok.mo (fun _ _ z => LQ.ext (e1.trans e2) z) (fun _ _ z => LX.ext (e1.trans e2) z) hf)
theorem mo_opX {f : D → D → AH → KD → KX → Prop} (mo : ∀ {x y h} {Q Q' : KD} {X X' : KX}, (∀ d h, Q d h → Q' d h) → (∀ d h, X d h → X' d h) → f x y h Q X → f x y h Q' X') (ma : MoE wa) (mb : MoE wb) :
    MoE (fun ρ h Q X => wa ρ h (fun x h1 => wb ρ h1 (fun y h2 => f x y h2 Q X) X) X) := fun ρ h Q Q' X X' hq hx q =>
  ma _ _ _ _ _ _ (fun x h1 q1 => mb _ _ _ _ _ _ (fun y h2 q2 => mo hq hx q2) hx q1) hx q
theorem ag_ixX (c : Cg gz X E k) (R : IxC X.prog X.w X.K X.mg X.base C j S) (hj : j + 1 ≤ k) (ha : AE X E a wa) (hb : AE X E b wb) (hs : ∀ v u, subscripted b true v u = runValue (.builtin "lifetime.subscript" ⟨[v, u], []⟩) := by intro _ _; rfl) :
    AE X E (.Subscript a b pos) (wIxX C S wa wb) := by
  obtain ⟨g, h1, h2, h3, h4⟩ := R.ex
  have ok : OpXD X.K E (rIxOwn C fun vs H Q _ => spD X.K S vs H Q E) (fun x y h Q X => isI C x h ∧ S [x, y] h Q X) := {
    to := by
      rintro F h H x y vx vy Q S0 rx ry ⟨⟨fs, ex⟩, q⟩
      obtain ⟨p, dx, us, rfl, hp, _⟩ := S0.insOf rx ex
      exact ⟨p, dx, us, rfl, hp, F, _, h, S0, .cons rx (.cons ry .nil), q⟩
    mo := fun hq hx ⟨a, q⟩ => ⟨a, R.mo _ _ _ _ _ _ hq hx q⟩ }
  refine ⟨PE.imp (t := tOp (rIxOwn C fun vs H Q _ => spD X.K S vs H Q E) (tE X.K E wa) (tE X.K E wb)) ⟨fun pins s σ H Q I h => PyProof.Rows.Subscript_ (binT ha.run hb.run I h fun v u s2 x y H2 I2 rx ry q => ?_)⟩ fun σ H Q h => twoX ok ha hb h, mo_opX ok.mo ha.mo hb.mo⟩
  obtain ⟨p, dx, fs, rfl, hp, z⟩ := q
  cases (show v = Value.ref p from rx)
  obtain ⟨ox, od, J⟩ := ins_at I2 hp
  obtain ⟨mm, hF⟩ := I2.fr
  exact PySem.W.sub_K hF I2.ok.mod.kin J h1 h2 h3 (wpAny_call (SlX.run_at (us := [.ref p, u]) (ws := [.ref p, y]) h4 (Room.in1 (c.room.mono hj)) I2.env0.in1 c.ps I2 (.cons rfl (.cons ry .nil)) z)) (hs _ _)
def rInX (neg : Bool) (C : Addr) (sp : List V → Hp → VK → Prop) : R2 := fun x y H Q => ∃ a dx fs, y = .ref a ∧ H a = some (.ins C dx fs) ∧ sp [y, x] H (fun v H2 => ∃ b, v = .bl b ∧ Q (.bl (if neg = true then !b else b)) H2)
theorem op_inX (neg : Bool) (op : CmpOp) (ho : ∀ v u, compareOp op v u = (contains u v >>= fun b => pure (Value.bool (if neg = true then !b else b)))) (c : Cg gz X E k) (hs : PySem.W.findIn X.K (.ref C) "__contains__" = some (some (.ref g))) (hf : PySem.W.isFn X.K (.ref g) = true) (G : FnRD X.prog X.w X.K X.mg X.base j g S) (hj : j ≤ k) :
    OpR X (compareOp op) (rInX neg C fun vs H Q => spD X.K S vs H Q E) := by
  intro pins s σ H x y v u Q I rx ry h
  obtain ⟨p, dx, fs, rfl, hp, z⟩ := h
  cases (show u = Value.ref p from ry)
  obtain ⟨ox, od, J⟩ := ins_at I hp
  rw [ho]
  refine wpAny_bind (in_own I.kIn J hs hf (wpAny_mono (wpAny_call (run_fnR (us := [.ref p, v]) (vs := [.ref p, x]) (G.mono hj) c.room c.ps I (.cons rfl (.cons rx .nil)) z)) (fun w s' z => ?_) fun _ _ x => x))
  obtain ⟨z', H', I', rz, b, rfl, qz⟩ := z
  refine ⟨b, rz, wpAny_pure ⟨.bl (if neg = true then !b else b), H', I', rfl, qz⟩⟩
theorem ag_inXn (neg : Bool) {op : CmpOp} (ho : ∀ v u, compareOp op v u = (contains u v >>= fun b => pure (Value.bool (if neg = true then !b else b)))) (c : Cg gz X E k) (R : InC X.prog X.w X.K X.mg X.base C j S) (hj : j ≤ k) (ha : AE X E a wa) (hb : AE X E b wb) (hm : behindInMarks op b = false) :
    AE X E (.Compare a [op] [b] pos) (wInX neg C S wa wb) := by
  obtain ⟨g, h1, h2, h3⟩ := R.ex
  have ok : OpXD X.K E (rInX neg C fun vs H Q => spD X.K S vs H Q E) (fun x y h Q X => isI C y h ∧ S [y, x] h (fun d h3 => ∃ b, d = .bl b ∧ Q (.bl (if neg = true then !b else b)) h3) X) := {
    to := by
      rintro F h H x y vx vy Q S0 rx ry ⟨⟨fs, ex⟩, q⟩
      obtain ⟨p, dx, us, rfl, hp, _⟩ := S0.insOf ry ex
      refine ⟨p, dx, us, rfl, hp, F, _, h, S0, .cons ry (.cons rx .nil), R.mo _ _ _ _ _ _ (fun d h3 z => ?_) (fun _ _ z => z) q⟩
      obtain ⟨b, rfl, z⟩ := z
      intro F2 H2 v e2 S2 rv
      cases rv
      exact ⟨b, rfl, z F2 H2 _ e2 S2 (.bl _)⟩
    mo := fun hq hx ⟨a, q⟩ => ⟨a, R.mo _ _ _ _ _ _ (fun d h3 ⟨b, e, z⟩ => ⟨b, e, hq _ _ z⟩) hx q⟩ }
  exact ⟨PE.imp (pe_cmpR (op_inX neg op ho c h1 h2 h3 hj) ha.run hb.run hm) fun σ H Q h => twoX ok ha hb h, mo_opX ok.mo ha.mo hb.mo⟩
theorem ag_inX (c : Cg gz X E k) (R : InC X.prog X.w X.K X.mg X.base C j S) (hj : j ≤ k) (ha : AE X E a wa) (hb : AE X E b wb) (hm : behindInMarks .In b = false := by first | exact nobehind _ (by decide) (by decide) | rfl) :
    AE X E (.Compare a [.In] [b] pos) (wInX false C S wa wb) := ag_inXn false (fun _ _ => by first | rfl | (unfold compareOp; rfl)) c R hj ha hb hm
end
section
variable {ρ : EnvD} {h : AH} {Q : KD} {X : KX} {C : Addr} {S : FSpec} {wa wb : WE}
theorem u_ixX : wIxX C S wa wb ρ h Q X = wa ρ h (fun x h1 => wb ρ h1 (fun y h2 => isI C x h2 ∧ S [x, y] h2 Q X) X) X := rfl
theorem u_inX {neg : Bool} : wInX neg C S wa wb ρ h Q X = wa ρ h (fun x h1 => wb ρ h1 (fun y h2 => isI C y h2 ∧ S [y, x] h2 (fun d h3 => ∃ b, d = .bl b ∧ Q (.bl (if neg = true then !b else b)) h3) X) X) X := rfl
end
end DL
namespace DL
open PySem PySem.Spec L2 C8 PyProof.Rows
/-! ### C(k = v, ..): a new instance, all by keywords -/
end DL
namespace DL
open PySem PySem.Spec L2 C8 PyProof.Rows
/-! ### C(a, .., k = v, ..): a new instance that may change -/
/-- a new instance, kept as it is or locked -/
def newI (m : Bool) (C : Addr) (a : Addr) (Q : KD) (h : AH) : Prop := ∃ fs, h a = some (.ins C fs) ∧ if m = true then Q (.ref a) h else Q (.ob C fs) (rm h a)
theorem newI_mo {m : Bool} {C a : Addr} {Q Q' : KD} {h : AH} (hq : ∀ x h, Q x h → Q' x h) (q : newI m C a Q h) : newI m C a Q' h := by
  obtain ⟨fs, e, q⟩ := q
  refine ⟨fs, e, ?_⟩
  split
  · rename_i c; rw [if_pos c] at q; exact hq _ _ q
  · rename_i c; rw [if_neg c] at q; exact hq _ _ q
def wMakeM (m : Bool) (C : Addr) (S : FSpec) (n j : Nat) (gg : List D → List D → List D) (wl wk : WA) : WE := fun ρ h Q X => wl ρ h (fun ds h1 => wk ρ h1 (fun zs h2 => ds.length = n ∧ zs.length = j ∧ ∀ a, h2 a = none → S (gg (.ref a :: ds) zs) (up h2 a (.ins C [])) (fun v h3 => v = .non ∧ newI m C a Q h3) X) X) X
section
variable (P : Program) (w : World) (K : PySem.W.Frag) (mg : Str → Option Value) (base : Heap)
structure MakMC (x : Str) (C : Addr) (k n : Nat) (ks : List Str) (gg : List D → List D → List D) (S : FSpec) : Prop where
  ex : ∃ fI fd ps, Mk K C fI ∧ FnG false P w K mg base k fI fd ps S ∧ Bnd K fd ps (n + 1) ks gg
  mo : MoF S
  at_ : mg x = some (.ref C)
end
section
variable {X : Cx} {E : XK} {gz m : Bool} {k j n nk : Nat} {kws : List Keyword} {wl wk : WA} {pos p : Pos} {x : Str} {C : Addr} {S : FSpec} {ks : List Str} {gg : List D → List D → List D} {f : Addr} {fd : FuncData} {ps : List Str} {e : Expr} {es : List Expr}
theorem run_makeM {pins : List (Addr × Obj)} {σ : L2.St} {H : Hp} {s : Shared} {Q : VK} {us ws : List Value} {vs ys : List V} {F1 : Hp} {h1 : AH} {ds zs : List D} (M : Mk X.K C f) (G : FnG false X.prog X.w X.K X.mg X.base k f fd ps S) (hr : Room (k + 1) X.A) (B : Bnd X.K fd ps (n + 1) ks gg)
    (hx : Passes (L2.CX X.prog X.w) X E) (I : Inv X pins σ H s) (S1 : Sim X.K F1 h1 H) (rd : Reps X.K F1 ds vs) (rv : Vals vs us) (rs : Reps X.K F1 zs ys) (rz : Vals ys ws) (l0 : ds.length = n) (l : zs.length = ks.length)
    (q1 : ∀ a, h1 a = none → S (gg (.ref a :: ds) zs) (up h1 a (.ins C [])) (fun v h2 => v = .non ∧ newI m C a (LQ X.K F1 Q) h2) (LX X.K F1 E)) :
    wpAny (model X.prog X.w) X.A (call (.ref C) us (ks.zip ws)) (EP X pins σ Q) X.xe s := by
  have hx0 : H (s.heap.objs.size + 1) = none := I.hok.fresh (Nat.le_succ _)
  have hd : H s.heap.objs.size = none := I.hok.fresh (Nat.le_refl _)
  have ne : s.heap.objs.size ≠ s.heap.objs.size + 1 := Nat.ne_of_lt (Nat.lt_succ_self _)
  have I2 := Inv.made (C := C) I
  have T1 := S1.newF hd (.own (s.heap.objs.size + 1))
  have e1 := ext_upd (o := HO.own (s.heap.objs.size + 1)) (S1.free hd).1
  have hx1 : (upd H s.heap.objs.size (.own (s.heap.objs.size + 1))) (s.heap.objs.size + 1) = none := by rw [upd_ne ne.symm]; exact hx0
  have T2 := T1.newM hx1 (o := .ins C []) (u := .ins C s.heap.objs.size []) ⟨s.heap.objs.size, [], rfl, .nil⟩
  obtain ⟨xs, ts, rx, rt, bt⟩ := B.to _ _ (.ref (s.heap.objs.size + 1) :: ds) zs (.ref (s.heap.objs.size + 1) :: vs) ys (.ref (s.heap.objs.size + 1) :: us) ws I2.kIn (by rw [List.length_cons, l0]) l (.cons (.ref _) (rd.ext e1)) (.cons rfl rv) (rs.ext e1) rz
  refine wpAny_call (make_map (f := f) I.kIn M.makes M.init (beq_iff_eq.mp M.fn) (codeAny_mono (G.run (E := E) (Q := fun v H2 => v = .non ∧ Q (.ref (s.heap.objs.size + 1)) H2) (hr.make C us (ks.zip ws)) (fun z => Bool.noConfusion z) (I2.env0.make C us (ks.zip ws)) bt rt
    ⟨_, _, _, T2, rx, G.mo _ _ _ _ _ _ (fun v h2 z => ?_) (fun _ _ z => LX.ext e1 z) (q1 _ (S1.free hx0).2)⟩) fun r s' hq' => ?_))
  · obtain ⟨rfl, fs, ef, z⟩ := z
    intro F3 H3 w e3 S3 rw'
    cases rw'
    refine ⟨rfl, ?_⟩
    cases m with
    | true =>
      rw [if_pos rfl] at z
      exact z _ _ _ (e1.trans e3) S3 (.ref _)
    | false =>
      rw [if_neg (by decide)] at z
      obtain ⟨_, u, hu, dy, us, rfl, rs⟩ := S3.ob _ _ ef
      obtain ⟨e4, S4⟩ := S3.frz ef hu rm_same rm_sub
      exact z _ _ _ (e1.trans (e3.trans e4)) S4 (.ob upd_same (rs.ext e4))
  · cases r with
    | error e => exact hx pins σ _ _ e s' I2 hq'
    | ok fl =>
      cases fl with
      | ret u =>
        obtain ⟨v, H', I3, rv, ev, q3⟩ := I2.after hq'
        subst ev
        exact ⟨rv, ⟨V.ref (s.heap.objs.size + 1), H', I3, rfl, q3⟩⟩
      | next => exact False.elim hq'
      | brk => exact False.elim hq'
      | cont => exact False.elim hq'
theorem ag_makeM0 (m : Bool) (c : Cg gz X E k) (M : MakMC X.prog X.w X.K X.mg X.base x C j 0 ks gg S) (hj : j + 1 ≤ k) (hkw : AK X E kws wk) (hl : ks.length = nk := by rfl)
    (hg : Gl X x := by rfl) (hall : (backToKw pos (keywordEach kws X.env)).all (·.1.isSome) = true := by rfl) (hks : (backToKw pos (keywordEach kws X.env)).filterMap (·.1) = ks := by rfl) (hdb : (x == ("__debug__" : Str)) = false := by decide)
    (hpl : ((backTo pos (starEach [] X.env)).any (·.1) || (backToKw pos (keywordEach kws X.env)).any (·.1.isNone)) = false := by rfl) : AE X E (.Call (.Name x p) [] kws pos) (wMakeM m C S 0 nk gg wNil wk) := by
  obtain ⟨f, fd, ps, h1, G, B⟩ := M.ex
  refine ⟨⟨fun pins s σ H Q I hq => ?_⟩, fun ρ h0 Q Q' X X' hq hx q => hkw.mo _ _ _ _ _ _ (fun zs h1 q1 => ⟨q1.1, q1.2.1, fun a ha => M.mo _ _ _ _ _ _ (fun v h2 ⟨e1, z⟩ => ⟨e1, newI_mo hq z⟩) hx (q1.2.2 a ha)⟩) hx q⟩
  obtain ⟨F, ρ, g, S0, R, q⟩ := hq
  refine wpAny_Call_Name_kw (ld_glob I hg M.at_ ?_ hdb)
  have st : ∀ {F1 F2 : Hp} (e1 : Ext F1 F2) (ds zs : List D) (h2 : AH), (ds.length = 0 ∧ zs.length = nk ∧ ∀ a, h2 a = none → S (gg (.ref a :: ds) zs) (up h2 a (.ins C [])) (fun v h3 => v = .non ∧ newI m C a (LQ X.K F1 Q) h3) (LX X.K F1 E)) →
      (ds.length = 0 ∧ zs.length = nk ∧ ∀ a, h2 a = none → S (gg (.ref a :: ds) zs) (up h2 a (.ins C [])) (fun v h3 => v = .non ∧ newI m C a (LQ X.K F2 Q) h3) (LX X.K F2 E)) := fun e1 ds zs h2 q => ⟨q.1, q.2.1, fun a ha => M.mo _ _ _ _ _ _ (fun v h3 ⟨z1, z2⟩ => ⟨z1, newI_mo (fun _ _ z => LQ.ext e1 z) z2⟩) (fun _ _ z => LX.ext e1 z) (q.2.2 a ha)⟩
  refine PySem.W.callWith_KW0 (h₀ := X.base) I.ok.mod.kin h1.kp hall
    (thn (hkw.run.run pos pins s σ H (fun ys H1 => ∃ F1 h1 zs, Sim X.K F1 h1 H1 ∧ Reps X.K F1 zs ys ∧ (([] : List D).length = 0 ∧ zs.length = nk ∧ ∀ a, h1 a = none → S (gg (.ref a :: []) zs) (up h1 a (.ins C [])) (fun v h3 => v = .non ∧ newI m C a (LQ X.K F1 Q) h3) (LX X.K F1 E))) I
      ⟨F, ρ, g, S0, R, hkw.mo _ _ _ _ _ _ (fun zs h1 q1 F1 H1 vs e1 S1 rs => ⟨F1, h1, zs, S1, rs, st e1 [] zs h1 q1⟩) (fun _ _ z => z) q⟩) fun ws s1 hh => ?_) hpl
  obtain ⟨ys, H1, I1, r1, F1, h2, zs, S1, rs, l1, l2, q2⟩ := hh
  refine ⟨I1.kIn, ?_⟩
  rw [hks]
  exact run_makeM h1 G (c.room.mono hj) B c.ps I1 S1 .nil .nil rs r1 l1 (l2.trans hl.symm) q2
theorem u_makeM {ρ : EnvD} {h : AH} {Q : KD} {X : KX} : wMakeM m C S n nk gg wl wk ρ h Q X = wl ρ h (fun ds h1 => wk ρ h1 (fun zs h2 => ds.length = n ∧ zs.length = nk ∧ ∀ a, h2 a = none → S (gg (.ref a :: ds) zs) (up h2 a (.ins C [])) (fun v h3 => v = .non ∧ newI m C a Q h3) X) X) X := rfl
end
end DL
/-! one reading or another, of a test -/
namespace DL
open PySem PySem.Spec L2 C8
def wOrTT (a b : WT) : WT := fun ρ h Q X => a ρ h Q X ∨ b ρ h Q X
section
variable {X : Cx} {E : XK} {e : Expr} {a b : WT}
theorem AT.or (h1 : AT X E e a) (h2 : AT X E e b) : AT X E e (wOrTT a b) := by
  refine ⟨⟨fun pins s σ H Q I q => ?_⟩, fun ρ h Q Q' X X' hq hx q => q.imp (h1.mo _ _ _ _ _ _ hq hx) (h2.mo _ _ _ _ _ _ hq hx)⟩
  obtain ⟨F, ρ, g, S, R, q⟩ := q
  rcases q with q | q
  · exact h1.run.run pins s σ H Q I ⟨F, ρ, g, S, R, q⟩
  · exact h2.run.run pins s σ H Q I ⟨F, ρ, g, S, R, q⟩
end
end DL
namespace FM
open PySem PySem.Spec L2 C8 DL
abbrev N_is_integer : List Str := ["value"]
abbrev N_is_between : List Str := ["value", "least", "most"]
abbrev N_common_divisor : List Str := ["one", "other"]
abbrev N_modulus_of : List Str := ["capacity", "most"]
abbrev N_shared : List Str := ["capacity", "other", "most"]
abbrev N_do_agree : List Str := ["one", "other", "most", "difference", "divisor"]
abbrev N_need_capacity_meters : List Str := ["value"]
abbrev N_need_bound : List Str := ["value"]
abbrev N_Meter___init__ : List Str := ["self", "most"]
abbrev N_Meter_readings : List Str := ["self"]
abbrev N_Meter_most : List Str := ["self"]
abbrev N_Meter_steps : List Str := ["self"]
abbrev N_Meter_settle : List Str := ["self", "readings", "most"]
abbrev N_Meter_take : List Str := ["self", "capacity", "length", "reading", "old"]
abbrev N_Meter_add : List Str := ["self", "capacity", "length"]
abbrev N_Meter___len__ : List Str := ["self"]
abbrev N_Meter___contains__ : List Str := ["self", "x", "capacity", "length"]
abbrev N_Meter___getitem__ : List Str := ["self", "at", "found", "capacity", "length"]
abbrev N__law_pen : List Str := ["_law_script"]
abbrev N__law_draw : List Str := ["_law_pen_here", "_law_many", "_law_digit", "_law_at", "_law_cell", "_law_great", "_law_mixed"]
abbrev N__law_divisor : List Str := ["_law_one", "_law_other"]
abbrev N__law_agree : List Str := ["_law_first", "_law_second", "_law_bound", "_law_gap", "_law_sizes", "_law_both", "_law_size_here"]
abbrev N__law_size : List Str := ["_law_pen_here", "_law_some"]
abbrev N__law_source : List Str := ["_law_pen_here", "_law_far", "_law_kept", "_law_k"]
abbrev N__law_length : List Str := ["_law_source_here", "_law_size_here", "_law_at", "_law_amount"]
abbrev N__law_reading : List Str := ["_law_pen_here", "_law_source_here", "_law_size_here", "_law_gap"]
abbrev N__law_fields : List Str := ["_law_caught", "_law_at"]
abbrev N__law_heard : List Str := ["_law_ask", "_law_caught", "_law_found", "error", "_law_marks", "_law_others", "_law_at"]
def errs (z : Ad) : List Addr := [z.InvalidCapacity, z.InvalidReading, z.InvalidBound, z.Contradiction, z.NoReading, z.NothingToUndo]
def xtab (z : Ad) : XTab := [(z.InvalidCapacity, .ref z.Contradiction, false), (z.InvalidCapacity, .ref z.DifferentModes, false), (z.InvalidCapacity, .ref z.Finished, false), (z.InvalidCapacity, .ref z.InvalidAccount, false), (z.InvalidCapacity, .ref z.InvalidBound, false), (z.InvalidCapacity, .ref z.InvalidCapacity, true), (z.InvalidCapacity, .ref z.InvalidMode, false), (z.InvalidCapacity, .ref z.InvalidNumber, false), (z.InvalidCapacity, .ref z.InvalidProgram, false), (z.InvalidCapacity, .ref z.InvalidReading, false), (z.InvalidCapacity, .ref z.InvalidRow, false), (z.InvalidCapacity, .ref z.InvalidTable, false), (z.InvalidCapacity, .ref z.InvalidText, false), (z.InvalidCapacity, .ty "LookupError", false), (z.InvalidCapacity, .ref z.Lossy, false), (z.InvalidCapacity, .ref z.NoName, false), (z.InvalidCapacity, .ref z.NoPlace, false), (z.InvalidCapacity, .ref z.NoPoint, false), (z.InvalidCapacity, .ref z.NoReading, false), (z.InvalidCapacity, .ref z.NothingToUndo, false), (z.InvalidCapacity, .ref z.SizeError, false), (z.InvalidCapacity, .ref z.UnknownCommand, false), (z.InvalidCapacity, .ty "ValueError", true), (z.InvalidReading, .ref z.Contradiction, false), (z.InvalidReading, .ref z.DifferentModes, false), (z.InvalidReading, .ref z.Finished, false), (z.InvalidReading, .ref z.InvalidAccount, false), (z.InvalidReading, .ref z.InvalidBound, false), (z.InvalidReading, .ref z.InvalidCapacity, false), (z.InvalidReading, .ref z.InvalidMode, false), (z.InvalidReading, .ref z.InvalidNumber, false), (z.InvalidReading, .ref z.InvalidProgram, false), (z.InvalidReading, .ref z.InvalidReading, true), (z.InvalidReading, .ref z.InvalidRow, false), (z.InvalidReading, .ref z.InvalidTable, false), (z.InvalidReading, .ref z.InvalidText, false), (z.InvalidReading, .ty "LookupError", false), (z.InvalidReading, .ref z.Lossy, false), (z.InvalidReading, .ref z.NoName, false), (z.InvalidReading, .ref z.NoPlace, false), (z.InvalidReading, .ref z.NoPoint, false), (z.InvalidReading, .ref z.NoReading, false), (z.InvalidReading, .ref z.NothingToUndo, false), (z.InvalidReading, .ref z.SizeError, false), (z.InvalidReading, .ref z.UnknownCommand, false), (z.InvalidReading, .ty "ValueError", true), (z.InvalidBound, .ref z.Contradiction, false), (z.InvalidBound, .ref z.DifferentModes, false), (z.InvalidBound, .ref z.Finished, false), (z.InvalidBound, .ref z.InvalidAccount, false), (z.InvalidBound, .ref z.InvalidBound, true), (z.InvalidBound, .ref z.InvalidCapacity, false), (z.InvalidBound, .ref z.InvalidMode, false), (z.InvalidBound, .ref z.InvalidNumber, false), (z.InvalidBound, .ref z.InvalidProgram, false), (z.InvalidBound, .ref z.InvalidReading, false), (z.InvalidBound, .ref z.InvalidRow, false), (z.InvalidBound, .ref z.InvalidTable, false), (z.InvalidBound, .ref z.InvalidText, false), (z.InvalidBound, .ty "LookupError", false), (z.InvalidBound, .ref z.Lossy, false), (z.InvalidBound, .ref z.NoName, false), (z.InvalidBound, .ref z.NoPlace, false), (z.InvalidBound, .ref z.NoPoint, false), (z.InvalidBound, .ref z.NoReading, false), (z.InvalidBound, .ref z.NothingToUndo, false), (z.InvalidBound, .ref z.SizeError, false), (z.InvalidBound, .ref z.UnknownCommand, false), (z.InvalidBound, .ty "ValueError", true), (z.Contradiction, .ref z.Contradiction, true), (z.Contradiction, .ref z.DifferentModes, false), (z.Contradiction, .ref z.Finished, false), (z.Contradiction, .ref z.InvalidAccount, false), (z.Contradiction, .ref z.InvalidBound, false), (z.Contradiction, .ref z.InvalidCapacity, false), (z.Contradiction, .ref z.InvalidMode, false), (z.Contradiction, .ref z.InvalidNumber, false), (z.Contradiction, .ref z.InvalidProgram, false), (z.Contradiction, .ref z.InvalidReading, false), (z.Contradiction, .ref z.InvalidRow, false), (z.Contradiction, .ref z.InvalidTable, false), (z.Contradiction, .ref z.InvalidText, false), (z.Contradiction, .ty "LookupError", false), (z.Contradiction, .ref z.Lossy, false), (z.Contradiction, .ref z.NoName, false), (z.Contradiction, .ref z.NoPlace, false), (z.Contradiction, .ref z.NoPoint, false), (z.Contradiction, .ref z.NoReading, false), (z.Contradiction, .ref z.NothingToUndo, false), (z.Contradiction, .ref z.SizeError, false), (z.Contradiction, .ref z.UnknownCommand, false), (z.Contradiction, .ty "ValueError", true), (z.NoReading, .ref z.Contradiction, false), (z.NoReading, .ref z.DifferentModes, false), (z.NoReading, .ref z.Finished, false), (z.NoReading, .ref z.InvalidAccount, false), (z.NoReading, .ref z.InvalidBound, false), (z.NoReading, .ref z.InvalidCapacity, false), (z.NoReading, .ref z.InvalidMode, false), (z.NoReading, .ref z.InvalidNumber, false), (z.NoReading, .ref z.InvalidProgram, false), (z.NoReading, .ref z.InvalidReading, false), (z.NoReading, .ref z.InvalidRow, false), (z.NoReading, .ref z.InvalidTable, false), (z.NoReading, .ref z.InvalidText, false), (z.NoReading, .ty "LookupError", true), (z.NoReading, .ref z.Lossy, false), (z.NoReading, .ref z.NoName, false), (z.NoReading, .ref z.NoPlace, false), (z.NoReading, .ref z.NoPoint, false), (z.NoReading, .ref z.NoReading, true), (z.NoReading, .ref z.NothingToUndo, false), (z.NoReading, .ref z.SizeError, false), (z.NoReading, .ref z.UnknownCommand, false), (z.NoReading, .ty "ValueError", false), (z.NothingToUndo, .ref z.Contradiction, false), (z.NothingToUndo, .ref z.DifferentModes, false), (z.NothingToUndo, .ref z.Finished, false), (z.NothingToUndo, .ref z.InvalidAccount, false), (z.NothingToUndo, .ref z.InvalidBound, false), (z.NothingToUndo, .ref z.InvalidCapacity, false), (z.NothingToUndo, .ref z.InvalidMode, false), (z.NothingToUndo, .ref z.InvalidNumber, false), (z.NothingToUndo, .ref z.InvalidProgram, false), (z.NothingToUndo, .ref z.InvalidReading, false), (z.NothingToUndo, .ref z.InvalidRow, false), (z.NothingToUndo, .ref z.InvalidTable, false), (z.NothingToUndo, .ref z.InvalidText, false), (z.NothingToUndo, .ty "LookupError", true), (z.NothingToUndo, .ref z.Lossy, false), (z.NothingToUndo, .ref z.NoName, false), (z.NothingToUndo, .ref z.NoPlace, false), (z.NothingToUndo, .ref z.NoPoint, false), (z.NothingToUndo, .ref z.NoReading, false), (z.NothingToUndo, .ref z.NothingToUndo, true), (z.NothingToUndo, .ref z.SizeError, false), (z.NothingToUndo, .ref z.UnknownCommand, false), (z.NothingToUndo, .ty "ValueError", false)]
/-! ### readings, meters -/
abbrev Rg := Int × Int
def bnD : Option Int → D
  | none => .non
  | some b => .int b
def md (m : Option Int) (c : Int) : Int := match m with
  | none => c
  | some b => if b < c then 0 else c
def agr (m : Option Int) (r s : Rg) : Bool :=
  if r.1 = s.1 ∨ Int.gcd (md m r.1) (md m s.1) = 0 then decide (r.2 - s.2 = 0) else decide ((r.2 - s.2) % (Int.gcd (md m r.1) (md m s.1) : Nat) = 0)
def Ok (rs : List Rg) : Prop := rs.length ≤ 1000 ∧ ∀ r ∈ rs, 0 ≤ r.1
def rdsD (rs : List Rg) : D := .tup (rs.map pairD)
structure Mt where
  noted : List Rg
  edge : Option Int
  ear : List (List Rg × Option Int)
def earD (es : List (List Rg × Option Int)) : D := .tup (es.map fun e => .tup [rdsD e.1, bnD e.2])
def mtF (m : Mt) : List (Str × D) := [("noted", rdsD m.noted), ("edge", bnD m.edge), ("earlier", earD m.ear)]
/-- a meter in the heap -/
def MtAt (z : Ad) (m : Mt) (h : AH) (a : Addr) : Prop := h a = some (.ins z.Meter (mtF m))
structure MOk (m : Mt) : Prop where
  nd : m.noted.length ≤ 1000
  er : m.ear.length ≤ 1000
  ps : ∀ r ∈ m.noted, 0 ≤ r.1
def putM (z : Ad) (h : AH) (a : Addr) (m : Mt) : AH := up h a (.ins z.Meter (mtF m))
def stl (m : Mt) (rs : List Rg) (e : Option Int) : Mt := ⟨rs, e, m.ear ++ [(m.noted, m.edge)]⟩
def hasC (rs : List Rg) (x : D) : Bool := match x with
  | .int c => rs.any fun r => decide (r.1 = c)
  | _ => false
def fstN (rs : List Rg) (m : Option Int) (x : Rg) : Option Rg := rs.find? fun r => !agr m r x
def tk (m : Mt) (r : Rg) : Mt := stl m (if hasC m.noted (.int r.1) = true then m.noted else m.noted ++ [r]) m.edge
def S_is_integer (z : Ad) : FSpec := S_isInt
def S_is_between (z : Ad) : FSpec := S_isBtw
def S_common_divisor (z : Ad) : FSpec := fun ds h Q _ => ∃ a b : Nat, ds = [.int (a : Nat), .int (b : Nat)] ∧ Q (.int (Nat.gcd a b : Nat)) h
def S_modulus_of (z : Ad) : FSpec := fun ds h Q _ => ∃ c m, ds = [.int c, bnD m] ∧ Q (.int (md m c)) h
def S_shared (z : Ad) : FSpec := fun ds h Q _ => ∃ a b m, ds = [.int a, .int b, bnD m] ∧ 0 ≤ a ∧ 0 ≤ b ∧ Q (.int (Int.gcd (md m a) (md m b) : Nat)) h
def S_do_agree (z : Ad) : FSpec := fun ds h Q _ => ∃ r s m, ds = [pairD r, pairD s, bnD m] ∧ 0 ≤ r.1 ∧ 0 ≤ s.1 ∧ Q (.bl (agr m r s)) h
/-- errors -/
def eCap (z : Ad) (v : D) : DX := .own z.InvalidCapacity [("value", v)]
def eRed (z : Ad) (v : D) : DX := .own z.InvalidReading [("value", v)]
def eBnd (z : Ad) (v : D) : DX := .own z.InvalidBound [("value", v)]
def eCon (z : Ad) (a b : D) : DX := .own z.Contradiction [("second", b), ("first", a)]
def eNoR (z : Ad) (v : D) : DX := .own z.NoReading [("asked", v)]
def S_need_capacity_meters (z : Ad) : FSpec := fun ds h Q X => ∃ x t, ds = [x] ∧ tyD h x = some t ∧ (btw x 1 10000 = true → Q .non h) ∧ (btw x 1 10000 = false → ∀ h', Sub h h' → X (eCap z x) h')
def isBd (x : D) : Bool := match x with
  | .non => true
  | x => btw x 0 10000
def S_need_bound (z : Ad) : FSpec := fun ds h Q X => ∃ x t, ds = [x] ∧ tyD h x = some t ∧ (isBd x = true → Q .non h) ∧ (isBd x = false → ∀ h', Sub h h' → X (eBnd z x) h')
def S_Meter___init__ (z : Ad) : FSpec := fun ds h Q X => ∃ a x t, ds = [.ref a, x] ∧ h a = some (.ins z.Meter []) ∧ tyD h x = some t ∧ (isBd x = true → Q .non (up h a (.ins z.Meter [("noted", .tup []), ("edge", x), ("earlier", .tup [])]))) ∧ (isBd x = false → ∀ h', Sub h h' → X (eBnd z x) h')
def S_Meter_readings (z : Ad) : FSpec := fun ds h Q _ => ∃ a m, ds = [.ref a] ∧ MtAt z m h a ∧ Q (rdsD m.noted) h
def S_Meter_most (z : Ad) : FSpec := fun ds h Q _ => ∃ a m, ds = [.ref a] ∧ MtAt z m h a ∧ Q (bnD m.edge) h
def S_Meter_steps (z : Ad) : FSpec := fun ds h Q _ => ∃ a m, ds = [.ref a] ∧ MtAt z m h a ∧ Q (.int (m.ear.length : Nat)) h
def S_Meter_settle (z : Ad) : FSpec := fun ds h Q _ => ∃ a m rs e, ds = [.ref a, rdsD rs, bnD e] ∧ MtAt z m h a ∧ m.ear.length ≤ 1000 ∧ Q .non (putM z h a (stl m rs e))
def S_Meter_take (z : Ad) : FSpec := fun ds h Q X => ∃ a m c l, ds = [.ref a, .int c, .int l] ∧ MtAt z m h a ∧ MOk m ∧ 0 ≤ c ∧ (∀ r, fstN m.noted m.edge (c, l) = some r → ∀ h', Sub h h' → X (eCon z (.int r.1) (.int c)) h') ∧ (fstN m.noted m.edge (c, l) = none → Q .non (putM z h a (tk m (c, l))))
def S_Meter_add (z : Ad) : FSpec := fun ds h Q X => ∃ a m x y t u, ds = [.ref a, x, y] ∧ MtAt z m h a ∧ MOk m ∧ tyD h x = some t ∧ tyD h y = some u ∧
  (btw x 1 10000 = false → ∀ h', Sub h h' → X (eCap z x) h') ∧ (btw x 1 10000 = true → btw y 0 (10 ^ 30) = false → ∀ h', Sub h h' → X (eRed z y) h') ∧
  ∀ c l, x = .int c → y = .int l → 1 ≤ c → c ≤ 10000 → 0 ≤ l → l ≤ 10 ^ 30 →
    (∀ r, fstN m.noted m.edge (c, l) = some r → ∀ h', Sub h h' → X (eCon z (.int r.1) (.int c)) h') ∧ (fstN m.noted m.edge (c, l) = none → Q .non (putM z h a (tk m (c, l))))
def S_Meter___len__ (z : Ad) : FSpec := fun ds h Q _ => ∃ a m, ds = [.ref a] ∧ MtAt z m h a ∧ Q (.int (m.noted.length : Nat)) h
def S_Meter___contains__ (z : Ad) : FSpec := fun ds h Q _ => ∃ a m x t, ds = [.ref a, x] ∧ MtAt z m h a ∧ MOk m ∧ tyD h x = some t ∧ Q (.bl (hasC m.noted x)) h
def lenC (rs : List Rg) (x : D) : List Rg := match x with
  | .int c => rs.filter fun r => decide (r.1 = c)
  | _ => []
def S_Meter___getitem__ (z : Ad) : FSpec := fun ds h Q X => ∃ a m x t, ds = [.ref a, x] ∧ MtAt z m h a ∧ MOk m ∧ tyD h x = some t ∧ (lenC m.noted x = [] → ∀ h', Sub h h' → X (eNoR z x) h') ∧ ∀ r l, lenC m.noted x = r :: l → Q (.int r.2) h
abbrev S__law_pen (z : Ad) : FSpec := S_pen
abbrev S__law_draw (z : Ad) : FSpec := S_draw
abbrev S__law_divisor (z : Ad) : FSpec := S_common_divisor z
abbrev S__law_agree (z : Ad) : FSpec := S_do_agree z
def S__law_size (z : Ad) : FSpec := fun ds h Q _ => ∃ (n : Int) (p : Addr), ds = [.ref p] ∧ PenAt n h p ∧ n < 900000 ∧ ∀ v o, 1 ≤ v → v ≤ 10000 → PenO (n + 10) o → Q (.int v) (up h p o)
def srcD (g : Int) (zs : List (Int × Int)) : D := .tup [.int g, .tup (zs.map pairD)]
structure SrcOk (g : Int) (zs : List (Int × Int)) : Prop where
  ln : zs.length ≤ 5
  g0 : 0 ≤ g
  g1 : g < 2 * 10 ^ 29
  rw_ : ∀ e ∈ zs, 1 ≤ e.1 ∧ e.1 ≤ 400 ∧ -30 ≤ e.2 ∧ e.2 ≤ 30
def lenS (g : Int) (zs : List (Int × Int)) (w : Int) : Int := g + (zs.map fun p => p.2 * (p.1 % w)).sum
def S__law_source (z : Ad) : FSpec := fun ds h Q _ => ∃ (n : Int) (p : Addr), ds = [.ref p] ∧ PenAt n h p ∧ n < 900000 ∧ ∀ g zs o, SrcOk g zs → PenO (n + 20) o → Q (srcD g zs) (up h p o)
def S__law_length (z : Ad) : FSpec := fun ds h Q _ => ∃ g zs w, ds = [srcD g zs, .int w] ∧ SrcOk g zs ∧ 1 ≤ w ∧ w ≤ 10000 ∧ Q (.int (lenS g zs w)) h
def S__law_reading (z : Ad) : FSpec := fun ds h Q _ => ∃ (n : Int) (p : Addr) (g : Int) (zs : List (Int × Int)), ds = [.ref p, srcD g zs] ∧ SrcOk g zs ∧ PenAt n h p ∧ n < 900000 ∧ ∀ (w e : Int) o, 1 ≤ w → w ≤ 10000 → -10000 ≤ e → e ≤ 10000 → PenO (n + 20) o → Q (pairD (w, lenS g zs w + e)) (up h p o)
/-- errors that are heard -/
inductive Hrd (z : Ad) : Addr → List (Str × D) → Nat → D → Prop where
  | cap (v : D) : Hrd z z.InvalidCapacity [("value", v)] 0 (.tup [.str "capacity", v])
  | red (v : D) : Hrd z z.InvalidReading [("value", v)] 1 (.tup [.str "reading", v])
  | bnd (v : D) : Hrd z z.InvalidBound [("value", v)] 2 (.tup [.str "bound", v])
  | con (v u : D) : Hrd z z.Contradiction [("second", u), ("first", v)] 3 (.tup [.str "against", v, u])
  | nor (v : D) : Hrd z z.NoReading [("asked", v)] 4 (.tup [.str "absent", v])
  | und (v : D) : Hrd z z.NothingToUndo [("count", v)] 5 (.tup [.str "undo", v])
def S__law_fields (z : Ad) : FSpec := fun ds h Q _ => ∃ C fs n d, ds = [.xob C fs, .int (n : Nat)] ∧ Hrd z C fs n d ∧ Q d h
def S__law_heard (z : Ad) : HSpec := fun tl h Q _ => tl h (fun d h' => Q (.lst [d]) h') (fun x h' => ∃ C fs n d, x = .own C fs ∧ Hrd z C fs n d ∧ Q d h')
/-! ### the readings -/
def w_is_integer (z : Ad) : WS := (wRet (wAndV (wB dIsi (wCons (wVar 0) (wCons (wC (.ty "int")) wNil))) (wNotV (wB dIsi (wCons (wVar 0) (wCons (wC (.ty "bool")) wNil))))))
def w_is_between (z : Ad) : WS := (wRet (wAndV (wCallP (S_is_integer z) 1 (fun ds _ => ds) (wCons (wVar 0) wNil)) (wChain (dCmpI fun i j => decide (i ≤ j)) (dCmpI fun i j => decide (i ≤ j)) (wVar 1) (wVar 0) (wVar 2))))
def w_common_divisor (z : Ad) : WS := (wSeq (wWhile (wTest (wOp (dCmpI fun i j => decide (j < i)) (wVar 1) (wC (.int 0)))) (wPar 0 1 (wCons (wVar 1) (wCons (wOp dMod (wVar 0) (wVar 1)) wNil))))
  (wRet (wVar 0)))
def w_modulus_of (z : Ad) : WS := (wRet (wIf (wAnd (wTest (wOp (dIsN fun b => !b) (wVar 1) (wC .non))) (wTest (wOp (dCmpI fun i j => decide (j < i)) (wVar 0) (wVar 1)))) (wC (.int 0)) (wVar 0)))
def w_shared (z : Ad) : WS := (wRet (wCallP (S_common_divisor z) 2 (fun ds _ => ds) (wCons (wCallP (S_modulus_of z) 2 (fun ds _ => ds) (wCons (wVar 0) (wCons (wVar 2) wNil))) (wCons (wCallP (S_modulus_of z) 2 (fun ds _ => ds) (wCons (wVar 1) (wCons (wVar 2) wNil))) wNil))))
def w_do_agree (z : Ad) : WS := (wSeq (wAsg (wOp dSub (wOp dIx (wVar 0) (wC (.int 1))) (wOp dIx (wVar 1) (wC (.int 1)))) (gN 3))
  (wSeq (wAsg (wCallP (S_shared z) 3 (fun ds _ => ds) (wCons (wOp dIx (wVar 0) (wC (.int 0))) (wCons (wOp dIx (wVar 1) (wC (.int 0))) (wCons (wVar 2) wNil)))) (gN 4))
  (wSeq (wIfS (wOr (wTest (wOp (dEq fun b => b) (wOp dIx (wVar 0) (wC (.int 0))) (wOp dIx (wVar 1) (wC (.int 0))))) (wTest (wOp (dEq fun b => b) (wVar 4) (wC (.int 0))))) (wRet (wOp (dEq fun b => b) (wVar 3) (wC (.int 0)))) wSkip)
  (wRet (wOp (dEq fun b => b) (wOp dMod (wVar 3) (wVar 4)) (wC (.int 0)))))))
def w_need_capacity_meters (z : Ad) : WS := (wIfS (wNot (wTest (wCallP (S_is_between z) 3 (fun ds _ => ds) (wCons (wVar 0) (wCons (wC (.int 1)) (wCons (wC (.int 10000)) wNil)))))) (wRaise z.InvalidCapacity ["value"] (wCons (wVar 0) wNil)) wSkip)
def w_need_bound (z : Ad) : WS := (wIfS (wAnd (wTest (wOp (dIsN fun b => !b) (wVar 0) (wC .non))) (wNot (wTest (wCallP (S_is_between z) 3 (fun ds _ => ds) (wCons (wVar 0) (wCons (wC (.int 0)) (wCons (wC (.int 10000)) wNil))))))) (wRaise z.InvalidBound ["value"] (wCons (wVar 0) wNil)) wSkip)
def w_Meter___init__ (z : Ad) : WS := (wSeq (wExpr (wCallP (S_need_bound z) 1 (fun ds _ => ds) (wCons (wVar 1) wNil)))
  (wSeq (wSetF z.Meter "noted" (wVar 0) (wTup wNil))
  (wSeq (wSetF z.Meter "edge" (wVar 0) (wVar 1))
  (wSetF z.Meter "earlier" (wVar 0) (wTup wNil)))))
def w_Meter_readings (z : Ad) : WS := (wRet (wFld z.Meter "noted" (wVar 0)))
def w_Meter_most (z : Ad) : WS := (wRet (wFld z.Meter "edge" (wVar 0)))
def w_Meter_steps (z : Ad) : WS := (wRet (wB dLen (wCons (wFld z.Meter "earlier" (wVar 0)) wNil)))
def w_Meter_settle (z : Ad) : WS := (wSeq (wSetF z.Meter "earlier" (wVar 0) (wOp (dAdd false) (wFld z.Meter "earlier" (wVar 0)) (wTup (wCons (wTup (wCons (wFld z.Meter "noted" (wVar 0)) (wCons (wFld z.Meter "edge" (wVar 0)) wNil))) wNil))))
  (wSeq (wSetF z.Meter "noted" (wVar 0) (wVar 1))
  (wSetF z.Meter "edge" (wVar 0) (wVar 2))))
def w_Meter_take (z : Ad) : WS := (wSeq (wAsg (wTup (wCons (wVar 1) (wCons (wVar 2) wNil))) (gN 3))
  (wSeq (wFor (iTupD (wFld z.Meter "noted" (wVar 0))) (gN 4) (wIfS (wNot (wTest (wCallP (S_do_agree z) 3 (fun ds _ => ds) (wCons (wVar 4) (wCons (wVar 3) (wCons (wFld z.Meter "edge" (wVar 0)) wNil)))))) (wRaise z.Contradiction ["first", "second"] (wCons (wOp dIx (wVar 4) (wC (.int 0))) (wCons (wVar 1) wNil))) wSkip))
  (wExpr (wMet z.Meter "settle" (S_Meter_settle z) (wVar 0) (wCons (wIf (wTest (wInX false z.Meter (S_Meter___contains__ z) (wVar 1) (wVar 0))) (wFld z.Meter "noted" (wVar 0)) (wOp (dAdd false) (wFld z.Meter "noted" (wVar 0)) (wTup (wCons (wVar 3) wNil)))) (wCons (wFld z.Meter "edge" (wVar 0)) wNil))))))
def w_Meter_add (z : Ad) : WS := (wSeq (wExpr (wCallP (S_need_capacity_meters z) 1 (fun ds _ => ds) (wCons (wVar 1) wNil)))
  (wSeq (wIfS (wNot (wTest (wCallP (S_is_between z) 3 (fun ds _ => ds) (wCons (wVar 2) (wCons (wC (.int 0)) (wCons (wC (.int 1000000000000000000000000000000)) wNil)))))) (wRaise z.InvalidReading ["value"] (wCons (wVar 2) wNil)) wSkip)
  (wExpr (wMet z.Meter "take" (S_Meter_take z) (wVar 0) (wCons (wVar 1) (wCons (wVar 2) wNil))))))
def w_Meter___len__ (z : Ad) : WS := (wRet (wB dLen (wCons (wFld z.Meter "noted" (wVar 0)) wNil)))
def w_Meter___contains__ (z : Ad) : WS := (wRet (wAndV (wCallP (S_is_integer z) 1 (fun ds _ => ds) (wCons (wVar 1) wNil)) (wB dAny (wCons (wLc false (iTupD (wFld z.Meter "noted" (wVar 0))) (gT 2 (gsN [2, 3])) wYes (wOp (dEq fun b => b) (wVar 2) (wVar 1)) [2, 3]) wNil))))
def w_Meter___getitem__ (z : Ad) : WS := (wSeq (wAsg (wLc false (iTupD (wFld z.Meter "noted" (wVar 0))) (gT 2 (gsN [3, 4])) (wAnd (wTest (wCallP (S_is_integer z) 1 (fun ds _ => ds) (wCons (wVar 1) wNil))) (wTest (wOp (dEq fun b => b) (wVar 3) (wVar 1)))) (wVar 4) [3, 4]) (gN 2))
  (wSeq (wIfS (wTest (wOp dEqE (wVar 2) (wLst false wNil))) (wRaise z.NoReading ["asked"] (wCons (wVar 1) wNil)) wSkip)
  (wRet (wOp dIx (wVar 2) (wC (.int 0))))))
def w__law_pen (z : Ad) : WS := (wRet (wLst true (wCons (wB (dListOf false) (wCons (wSl false (wVar 0) woNone (woSome (wC (.int 63)))) wNil)) (wCons (wC (.int 0)) (wCons (wC (.int 0)) wNil)))))
def w__law_draw (z : Ad) : WS := (wSeq (wIfS (wTest (wOp (dCmpI fun i j => decide (j < i)) (wOp dIx (wVar 0) (wC (.int 2))) (wC (.int 0)))) (wSeq (wAsg (wOp dMod (wOp dIx (wVar 0) (wC (.int 2))) (wVar 1)) (gN 2))
  (wSeq (wAsg (wOp dDiv (wOp dIx (wVar 0) (wC (.int 2))) (wVar 1)) (gSubL (wVar 0) (wC (.int 2))))
  (wRet (wVar 2)))) wSkip)
  (wSeq (wAsg (wOp dIx (wVar 0) (wC (.int 1))) (gN 3))
  (wSeq (wAsg (wOp (dAdd false) (wVar 3) (wC (.int 1))) (gSubL (wVar 0) (wC (.int 1))))
  (wSeq (wAsg (wOp (dAdd false) (wOp (dMul false) (wC (.int 70891)) (wVar 3)) (wC (.int 37))) (gN 4))
  (wSeq (wIfS (wTest (wOp (dEq fun b => !b) (wOp dIx (wVar 0) (wC (.int 0))) (wLst false wNil))) (wAsg (wOp dIx (wOp dIx (wVar 0) (wC (.int 0))) (wOp dMod (wVar 3) (wB dLen (wCons (wOp dIx (wVar 0) (wC (.int 0))) wNil)))) (gN 4)) wSkip)
  (wSeq (wIfS (wAnd (wTest (wOp (dCmpI fun i j => decide (i < j)) (wVar 3) (wB dLen (wCons (wOp dIx (wVar 0) (wC (.int 0))) wNil)))) (wTest (wOp (dCmpI fun i j => decide (j ≤ i)) (wB dAbs (wCons (wVar 4) wNil)) (wOp dPow (wC (.int 10)) (wC (.int 18)))))) (wSeq (wAsg (wOp (dAdd false) (wOp (dMul false) (wC (.int 2)) (wB dAbs (wCons (wVar 4) wNil))) (wB dInt (wCons (wOp (dCmpI fun i j => decide (i < j)) (wVar 4) (wC (.int 0))) wNil))) (gN 5))
  (wSeq (wAsg (wOp dDiv (wVar 5) (wVar 1)) (gSubL (wVar 0) (wC (.int 2))))
  (wRet (wOp dMod (wVar 5) (wVar 1))))) wSkip)
  (wSeq (wAsg (wOp dMod (wOp dPow (wOp (dAdd false) (wOp (dAdd false) (wOp (dAdd false) (wOp dMod (wVar 4) (wC (.int 2147483563))) (wOp (dMul false) (wOp (dMul false) (wC (.int 50147)) (wVar 3)) (wVar 3))) (wOp (dMul false) (wC (.int 30011)) (wVar 3))) (wC (.int 67))) (wC (.int 3))) (wC (.int 2147483647))) (gN 6))
  (wSeq (wAsg (wOp dMod (wOp dPow (wOp (dAdd false) (wOp (dAdd false) (wOp (dMul false) (wVar 6) (wOp (dAdd false) (wOp (dMul false) (wC (.int 2)) (wVar 3)) (wC (.int 40009)))) (wOp (dMul false) (wC (.int 17)) (wVar 3))) (wC (.int 11))) (wC (.int 5))) (wC (.int 2147483629))) (gN 6))
  (wRet (wOp dMod (wOp dDiv (wVar 6) (wC (.int 64))) (wVar 1)))))))))))
def w__law_divisor (z : Ad) : WS := (wSeq (wWhile (wTest (wOp (dCmpI fun i j => decide (j < i)) (wVar 1) (wC (.int 0)))) (wPar 0 1 (wCons (wVar 1) (wCons (wOp dMod (wVar 0) (wVar 1)) wNil))))
  (wRet (wVar 0)))
def w__law_agree (z : Ad) : WS := (wSeq (wAsg (wOp dSub (wOp dIx (wVar 0) (wC (.int 1))) (wOp dIx (wVar 1) (wC (.int 1)))) (gN 3))
  (wSeq (wIfS (wOr (wTest (wOp (dEq fun b => b) (wOp dIx (wVar 0) (wC (.int 0))) (wOp dIx (wVar 1) (wC (.int 0))))) (wTest (wOp (dEq fun b => b) (wVar 3) (wC (.int 0))))) (wRet (wOp (dEq fun b => b) (wVar 3) (wC (.int 0)))) wSkip)
  (wSeq (wAsg (wLc false (iTupD (wTup (wCons (wOp dIx (wVar 0) (wC (.int 0))) (wCons (wOp dIx (wVar 1) (wC (.int 0))) wNil)))) (gN 6) wYes (wOp (dMul false) (wVar 6) (wB dInt (wCons (wOrV (wOp (dIsN fun b => b) (wVar 2) (wC .non)) (wOp (dCmpI fun i j => decide (i ≤ j)) (wVar 6) (wVar 2))) wNil))) [6]) (gN 4))
  (wSeq (wAsg (wCallP (S__law_divisor z) 2 (fun ds _ => ds) (wCons (wOp dIx (wVar 4) (wC (.int 0))) (wCons (wOp dIx (wVar 4) (wC (.int 1))) wNil))) (gN 5))
  (wRet (wAndV (wOp (dCmpI fun i j => decide (j < i)) (wVar 5) (wC (.int 0))) (wOp (dEq fun b => b) (wOp dMod (wVar 3) (wVar 5)) (wC (.int 0)))))))))
def w__law_size (z : Ad) : WS := (wSeq (wAsg (wLst false (wCons (wOp (dAdd false) (wC (.int 1)) (wCallP (S__law_draw z) 2 (fun ds _ => ds) (wCons (wVar 0) (wCons (wC (.int 12)) wNil)))) (wCons (wOp dIx (wLst false (wCons (wC (.int 2)) (wCons (wC (.int 4)) (wCons (wC (.int 6)) (wCons (wC (.int 8)) (wCons (wC (.int 12)) (wCons (wC (.int 24)) (wCons (wC (.int 36)) (wCons (wC (.int 60)) wNil))))))))) (wCallP (S__law_draw z) 2 (fun ds _ => ds) (wCons (wVar 0) (wCons (wC (.int 8)) wNil)))) (wCons (wOp dIx (wLst false (wCons (wC (.int 3)) (wCons (wC (.int 7)) (wCons (wC (.int 31)) (wCons (wC (.int 97)) wNil))))) (wCallP (S__law_draw z) 2 (fun ds _ => ds) (wCons (wVar 0) (wCons (wC (.int 4)) wNil)))) wNil)))) (gN 1))
  (wRet (wOp dIx (wOp (dAdd false) (wVar 1) (wLst false (wCons (wOp (dAdd false) (wC (.int 1)) (wCallP (S__law_draw z) 2 (fun ds _ => ds) (wCons (wVar 0) (wCons (wC (.int 60)) wNil)))) (wCons (wOp dSub (wOp dPow (wC (.int 10)) (wC (.int 4))) (wCallP (S__law_draw z) 2 (fun ds _ => ds) (wCons (wVar 0) (wCons (wC (.int 3)) wNil)))) wNil)))) (wCallP (S__law_draw z) 2 (fun ds _ => ds) (wCons (wVar 0) (wCons (wC (.int 5)) wNil))))))
def w__law_source (z : Ad) : WS := (wSeq (wAsg (wOp dIx (wLst false (wCons (wC (.int 6)) (wCons (wC (.int 20)) (wCons (wC (.int 400)) wNil)))) (wCallP (S__law_draw z) 2 (fun ds _ => ds) (wCons (wVar 0) (wCons (wC (.int 3)) wNil)))) (gN 1))
  (wSeq (wAsg wDnew (gN 2))
  (wSeq (wFor (iRng1 (wCons (wCallP (S__law_draw z) 2 (fun ds _ => ds) (wCons (wVar 0) (wCons (wC (.int 6)) wNil))) wNil)) (gN 3) (wDput (wVar 2) (wOp (dAdd false) (wC (.int 1)) (wCallP (S__law_draw z) 2 (fun ds _ => ds) (wCons (wVar 0) (wCons (wVar 1) wNil)))) (wOp dIx (wLst false (wCons (wC (.int 1)) (wCons (wC (.int 2)) (wCons (wNeg (wC (.int 1))) (wCons (wC (.int 7)) (wCons (wNeg (wC (.int 30))) wNil)))))) (wCallP (S__law_draw z) 2 (fun ds _ => ds) (wCons (wVar 0) (wCons (wC (.int 5)) wNil))))))
  (wRet (wTup (wCons (wOp (dAdd false) (wOp dIx (wLst false (wCons (wOp dPow (wC (.int 10)) (wC (.int 5))) (wCons (wOp dPow (wC (.int 10)) (wC (.int 29))) wNil))) (wCallP (S__law_draw z) 2 (fun ds _ => ds) (wCons (wVar 0) (wCons (wC (.int 2)) wNil)))) (wCallP (S__law_draw z) 2 (fun ds _ => ds) (wCons (wVar 0) (wCons (wC (.int 99)) wNil)))) (wCons (wB dTupOf (wCons (wSortIt false (wVar 2)) wNil)) wNil)))))))
def w__law_length (z : Ad) : WS := (wRet (wOp (dAdd false) (wOp dIx (wVar 0) (wC (.int 0))) (wB dSum (wCons (wLc false (iTupD (wOp dIx (wVar 0) (wC (.int 1)))) (gT 2 (gsN [2, 3])) wYes (wOp (dMul false) (wVar 3) (wOp dMod (wVar 2) (wVar 1))) [2, 3]) wNil))))
def w__law_reading (z : Ad) : WS := (wSeq (wAsg (wCallP (S__law_size z) 1 (fun ds _ => ds) (wCons (wVar 0) wNil)) (gN 2))
  (wSeq (wAsg (wOp dIx (wLst false (wCons (wC (.int 0)) (wCons (wC (.int 0)) (wCons (wC (.int 0)) (wCons (wC (.int 0)) (wCons (wOp dSub (wCallP (S__law_draw z) 2 (fun ds _ => ds) (wCons (wVar 0) (wCons (wC (.int 9)) wNil))) (wC (.int 4))) (wCons (wVar 2) wNil))))))) (wCallP (S__law_draw z) 2 (fun ds _ => ds) (wCons (wVar 0) (wCons (wC (.int 6)) wNil)))) (gN 3))
  (wRet (wTup (wCons (wVar 2) (wCons (wOp (dAdd false) (wCallP (S__law_length z) 2 (fun ds _ => ds) (wCons (wVar 1) (wCons (wVar 2) wNil))) (wVar 3)) wNil))))))
def w__law_fields (z : Ad) : WS := (wSeq (wIfS (wTest (wOp (dCmpI fun i j => decide (i < j)) (wVar 1) (wC (.int 3)))) (wRet (wTup (wCons (wOp dIx (wLst false (wCons (wC (.str "capacity")) (wCons (wC (.str "reading")) (wCons (wC (.str "bound")) wNil)))) (wVar 1)) (wCons (wXFld [z.InvalidCapacity, z.InvalidReading, z.InvalidBound] "value" (wVar 0)) wNil)))) wSkip)
  (wSeq (wIfS (wTest (wOp (dEq fun b => b) (wVar 1) (wC (.int 3)))) (wRet (wTup (wCons (wC (.str "against")) (wCons (wXFld [z.Contradiction] "first" (wVar 0)) (wCons (wXFld [z.Contradiction] "second" (wVar 0)) wNil))))) wSkip)
  (wRet (wIf (wTest (wOp (dEq fun b => b) (wVar 1) (wC (.int 4)))) (wTup (wCons (wC (.str "absent")) (wCons (wXFld [z.NoReading] "asked" (wVar 0)) wNil))) (wTup (wCons (wC (.str "undo")) (wCons (wXFld [z.NothingToUndo] "count" (wVar 0)) wNil)))))))
def w__law_heard (z : Ad) (d : D) (tl : Thk) : WS := (wSeq (wAsg (wC .non) (gN 1))
  (wSeq (wAsg (wC .non) (gN 2))
  (wSeq (wTry (errs z) 7 1 (wAsg (wAct 0 d tl) (gN 2)))
  (wSeq (wIfS (wTest (wOp (dIsN fun b => b) (wVar 1) (wC .non))) (wRet (wLst false (wCons (wVar 2) wNil))) wSkip)
  (wSeq (wAsg (wLst true (wCons (wB (dIsX (xtab z)) (wCons (wVar 1) (wCons (wC (.ref z.InvalidCapacity)) wNil))) (wCons (wB (dIsX (xtab z)) (wCons (wVar 1) (wCons (wC (.ref z.InvalidReading)) wNil))) (wCons (wB (dIsX (xtab z)) (wCons (wVar 1) (wCons (wC (.ref z.InvalidBound)) wNil))) wNil)))) (gN 4))
  (wSeq (wAsg (wOp (dAdd true) (wVar 4) (wLst false (wCons (wB (dIsX (xtab z)) (wCons (wVar 1) (wCons (wC (.ref z.Contradiction)) wNil))) (wCons (wB (dIsX (xtab z)) (wCons (wVar 1) (wCons (wC (.ref z.NoReading)) wNil))) wNil)))) (gN 4))
  (wSeq (wExpr (wMethT isL dAppend (wVar 4) (wCons (wB (dIsX (xtab z)) (wCons (wVar 1) (wCons (wC (.ref z.NothingToUndo)) wNil))) wNil)))
  (wSeq (wAsg (wB (dIsXT (xtab z)) (wCons (wVar 1) (wCons (wTup (wCons (wC (.ref z.InvalidAccount)) (wCons (wC (.ref z.InvalidMode)) (wCons (wC (.ref z.InvalidNumber)) (wCons (wC (.ref z.InvalidProgram)) (wCons (wC (.ref z.InvalidRow)) (wCons (wC (.ref z.InvalidTable)) wNil))))))) wNil))) (gN 5))
  (wSeq (wAsg (wOrT (wVar 5) (wB (dIsXT (xtab z)) (wCons (wVar 1) (wCons (wTup (wCons (wC (.ref z.DifferentModes)) (wCons (wC (.ref z.InvalidText)) (wCons (wC (.ref z.Lossy)) (wCons (wC (.ref z.UnknownCommand)) (wCons (wC (.ref z.SizeError)) (wCons (wC (.ref z.NoName)) wNil))))))) wNil)))) (gN 5))
  (wSeq (wIfS (wOr (wTruth (wVar 5)) (wOr (wTest (wB (dIsXT (xtab z)) (wCons (wVar 1) (wCons (wTup (wCons (wC (.ref z.Finished)) (wCons (wC (.ref z.NoPlace)) (wCons (wC (.ref z.NoPoint)) wNil)))) wNil)))) (wTest (wOp (dEq fun b => !b) (wMethT isL dCountB (wVar 4) (wCons (wC (.bl true)) wNil)) (wC (.int 1)))))) (wRet (wTup (wCons (wC (.str "other")) wNil))) wSkip)
  (wSeq (wAsg (wMethT isL dIndexB (wVar 4) (wCons (wC (.bl true)) wNil)) (gN 6))
  (wSeq (wIfS (wOr (wTest (wOp (dEq fun b => !b) (wB (dIsX (xtab z)) (wCons (wVar 1) (wCons (wC (.ty "ValueError")) wNil))) (wOp (dCmpI fun i j => decide (i < j)) (wVar 6) (wC (.int 4))))) (wTest (wOp (dEq fun b => !b) (wB (dIsX (xtab z)) (wCons (wVar 1) (wCons (wC (.ty "LookupError")) wNil))) (wOp (dCmpI fun i j => decide (j < i)) (wVar 6) (wC (.int 3)))))) (wRet (wTup (wCons (wC (.str "other")) wNil))) wSkip)
  (wRet (wCallP (S__law_fields z) 2 (fun ds _ => ds) (wCons (wVar 1) (wCons (wVar 6) wNil))))))))))))))))
theorem len_is_integer (z : Ad) : ∀ ds h Q X, S_is_integer z ds h Q X → ds.length = 1 := len_isInt
theorem mo_is_integer (z : Ad) : MoF (S_is_integer z) := mo_isInt
theorem len_is_between (z : Ad) : ∀ ds h Q X, S_is_between z ds h Q X → ds.length = 3 := len_isBtw
theorem mo_is_between (z : Ad) : MoF (S_is_between z) := mo_isBtw
theorem len_common_divisor (z : Ad) : ∀ ds h Q X, S_common_divisor z ds h Q X → ds.length = 2 := fun _ _ _ _ ⟨_, _, e, _⟩ => by rw [e]; rfl
theorem mo_common_divisor (z : Ad) : MoF (S_common_divisor z) := fun _ _ _ _ _ _ hq _ ⟨a, b, e, q⟩ => ⟨a, b, e, hq _ _ q⟩
theorem len_modulus_of (z : Ad) : ∀ ds h Q X, S_modulus_of z ds h Q X → ds.length = 2 := fun _ _ _ _ ⟨_, _, e, _⟩ => by rw [e]; rfl
theorem mo_modulus_of (z : Ad) : MoF (S_modulus_of z) := fun _ _ _ _ _ _ hq _ ⟨a, b, e, q⟩ => ⟨a, b, e, hq _ _ q⟩
theorem len_shared (z : Ad) : ∀ ds h Q X, S_shared z ds h Q X → ds.length = 3 := fun _ _ _ _ ⟨_, _, _, e, _⟩ => by rw [e]; rfl
theorem mo_shared (z : Ad) : MoF (S_shared z) := fun _ _ _ _ _ _ hq _ ⟨a, b, c, e, o1, o2, q⟩ => ⟨a, b, c, e, o1, o2, hq _ _ q⟩
theorem len_do_agree (z : Ad) : ∀ ds h Q X, S_do_agree z ds h Q X → ds.length = 3 := fun _ _ _ _ ⟨_, _, _, e, _⟩ => by rw [e]; rfl
theorem mo_do_agree (z : Ad) : MoF (S_do_agree z) := fun _ _ _ _ _ _ hq _ ⟨a, b, c, e, o1, o2, q⟩ => ⟨a, b, c, e, o1, o2, hq _ _ q⟩
theorem len_need_capacity_meters (z : Ad) : ∀ ds h Q X, S_need_capacity_meters z ds h Q X → ds.length = 1 := fun _ _ _ _ ⟨_, _, e, _⟩ => by rw [e]; rfl
theorem mo_need_capacity_meters (z : Ad) : MoF (S_need_capacity_meters z) := fun _ _ _ _ _ _ hq hx ⟨a, b, e, o, q1, q2⟩ => ⟨a, b, e, o, fun c => hq _ _ (q1 c), fun c h' s => hx _ _ (q2 c h' s)⟩
theorem len_need_bound (z : Ad) : ∀ ds h Q X, S_need_bound z ds h Q X → ds.length = 1 := fun _ _ _ _ ⟨_, _, e, _⟩ => by rw [e]; rfl
theorem mo_need_bound (z : Ad) : MoF (S_need_bound z) := fun _ _ _ _ _ _ hq hx ⟨a, b, e, o, q1, q2⟩ => ⟨a, b, e, o, fun c => hq _ _ (q1 c), fun c h' s => hx _ _ (q2 c h' s)⟩
theorem len_Meter___init__ (z : Ad) : ∀ ds h Q X, S_Meter___init__ z ds h Q X → ds.length = 2 := fun _ _ _ _ ⟨_, _, _, e, _⟩ => by rw [e]; rfl
theorem mo_Meter___init__ (z : Ad) : MoF (S_Meter___init__ z) := fun _ _ _ _ _ _ hq hx ⟨a, b, c, e, o, o2, q1, q2⟩ => ⟨a, b, c, e, o, o2, fun c => hq _ _ (q1 c), fun c h' s => hx _ _ (q2 c h' s)⟩
theorem len_Meter_readings (z : Ad) : ∀ ds h Q X, S_Meter_readings z ds h Q X → ds.length = 1 := fun _ _ _ _ ⟨_, _, e, _⟩ => by rw [e]; rfl
theorem mo_Meter_readings (z : Ad) : MoF (S_Meter_readings z) := fun _ _ _ _ _ _ hq _ ⟨a, b, e, o, q⟩ => ⟨a, b, e, o, hq _ _ q⟩
theorem len_Meter_most (z : Ad) : ∀ ds h Q X, S_Meter_most z ds h Q X → ds.length = 1 := fun _ _ _ _ ⟨_, _, e, _⟩ => by rw [e]; rfl
theorem mo_Meter_most (z : Ad) : MoF (S_Meter_most z) := fun _ _ _ _ _ _ hq _ ⟨a, b, e, o, q⟩ => ⟨a, b, e, o, hq _ _ q⟩
theorem len_Meter_steps (z : Ad) : ∀ ds h Q X, S_Meter_steps z ds h Q X → ds.length = 1 := fun _ _ _ _ ⟨_, _, e, _⟩ => by rw [e]; rfl
theorem mo_Meter_steps (z : Ad) : MoF (S_Meter_steps z) := fun _ _ _ _ _ _ hq _ ⟨a, b, e, o, q⟩ => ⟨a, b, e, o, hq _ _ q⟩
theorem len_Meter_settle (z : Ad) : ∀ ds h Q X, S_Meter_settle z ds h Q X → ds.length = 3 := fun _ _ _ _ ⟨_, _, _, _, e, _⟩ => by rw [e]; rfl
theorem mo_Meter_settle (z : Ad) : MoF (S_Meter_settle z) := fun _ _ _ _ _ _ hq _ ⟨a, b, c, d, e, o, o2, q⟩ => ⟨a, b, c, d, e, o, o2, hq _ _ q⟩
theorem len_Meter_take (z : Ad) : ∀ ds h Q X, S_Meter_take z ds h Q X → ds.length = 3 := fun _ _ _ _ ⟨_, _, _, _, e, _⟩ => by rw [e]; rfl
theorem mo_Meter_take (z : Ad) : MoF (S_Meter_take z) := fun _ _ _ _ _ _ hq hx ⟨a, b, c, d, e, o, o2, o3, q1, q2⟩ => ⟨a, b, c, d, e, o, o2, o3, fun r c h' s => hx _ _ (q1 r c h' s), fun c => hq _ _ (q2 c)⟩
theorem len_Meter_add (z : Ad) : ∀ ds h Q X, S_Meter_add z ds h Q X → ds.length = 3 := fun _ _ _ _ ⟨_, _, _, _, _, _, e, _⟩ => by rw [e]; rfl
theorem mo_Meter_add (z : Ad) : MoF (S_Meter_add z) := fun _ _ _ _ _ _ hq hx ⟨a, b, c, d, t, u, e, o1, o2, o3, o4, q1, q2, q3⟩ => ⟨a, b, c, d, t, u, e, o1, o2, o3, o4, fun c h' s => hx _ _ (q1 c h' s), fun c d h' s => hx _ _ (q2 c d h' s), fun c l e1 e2 i1 i2 i3 i4 => ⟨fun r w h' s => hx _ _ ((q3 c l e1 e2 i1 i2 i3 i4).1 r w h' s), fun w => hq _ _ ((q3 c l e1 e2 i1 i2 i3 i4).2 w)⟩⟩
theorem len_Meter___len__ (z : Ad) : ∀ ds h Q X, S_Meter___len__ z ds h Q X → ds.length = 1 := fun _ _ _ _ ⟨_, _, e, _⟩ => by rw [e]; rfl
theorem mo_Meter___len__ (z : Ad) : MoF (S_Meter___len__ z) := fun _ _ _ _ _ _ hq _ ⟨a, b, e, o, q⟩ => ⟨a, b, e, o, hq _ _ q⟩
theorem len_Meter___contains__ (z : Ad) : ∀ ds h Q X, S_Meter___contains__ z ds h Q X → ds.length = 2 := fun _ _ _ _ ⟨_, _, _, _, e, _⟩ => by rw [e]; rfl
theorem mo_Meter___contains__ (z : Ad) : MoF (S_Meter___contains__ z) := fun _ _ _ _ _ _ hq _ ⟨a, b, c, d, e, o, o2, o3, q⟩ => ⟨a, b, c, d, e, o, o2, o3, hq _ _ q⟩
theorem len_Meter___getitem__ (z : Ad) : ∀ ds h Q X, S_Meter___getitem__ z ds h Q X → ds.length = 2 := fun _ _ _ _ ⟨_, _, _, _, e, _⟩ => by rw [e]; rfl
theorem mo_Meter___getitem__ (z : Ad) : MoF (S_Meter___getitem__ z) := fun _ _ _ _ _ _ hq hx ⟨a, b, c, d, e, o, o2, o3, q1, q2⟩ => ⟨a, b, c, d, e, o, o2, o3, fun c h' s => hx _ _ (q1 c h' s), fun r l c => hq _ _ (q2 r l c)⟩
theorem len__law_pen (z : Ad) : ∀ ds h Q X, S__law_pen z ds h Q X → ds.length = 1 := len_pen
theorem mo__law_pen (z : Ad) : MoF (S__law_pen z) := mo_pen
theorem len__law_draw (z : Ad) : ∀ ds h Q X, S__law_draw z ds h Q X → ds.length = 2 := len_draw
theorem mo__law_draw (z : Ad) : MoF (S__law_draw z) := mo_draw
theorem len__law_divisor (z : Ad) : ∀ ds h Q X, S__law_divisor z ds h Q X → ds.length = 2 := len_common_divisor z
theorem mo__law_divisor (z : Ad) : MoF (S__law_divisor z) := mo_common_divisor z
theorem len__law_agree (z : Ad) : ∀ ds h Q X, S__law_agree z ds h Q X → ds.length = 3 := len_do_agree z
theorem mo__law_agree (z : Ad) : MoF (S__law_agree z) := mo_do_agree z
theorem len__law_size (z : Ad) : ∀ ds h Q X, S__law_size z ds h Q X → ds.length = 1 := fun _ _ _ _ ⟨_, _, e, _⟩ => by rw [e]; rfl
theorem mo__law_size (z : Ad) : MoF (S__law_size z) := fun _ _ _ _ _ _ hq _ ⟨a, b, e, o1, o2, q⟩ => ⟨a, b, e, o1, o2, fun v o i1 i2 i3 => hq _ _ (q v o i1 i2 i3)⟩
theorem len__law_source (z : Ad) : ∀ ds h Q X, S__law_source z ds h Q X → ds.length = 1 := fun _ _ _ _ ⟨_, _, e, _⟩ => by rw [e]; rfl
theorem mo__law_source (z : Ad) : MoF (S__law_source z) := fun _ _ _ _ _ _ hq _ ⟨a, b, e, o1, o2, q⟩ => ⟨a, b, e, o1, o2, fun v o w i1 i2 => hq _ _ (q v o w i1 i2)⟩
theorem len__law_length (z : Ad) : ∀ ds h Q X, S__law_length z ds h Q X → ds.length = 2 := fun _ _ _ _ ⟨_, _, _, e, _⟩ => by rw [e]; rfl
theorem mo__law_length (z : Ad) : MoF (S__law_length z) := fun _ _ _ _ _ _ hq _ ⟨a, b, c, e, o1, o2, o3, q⟩ => ⟨a, b, c, e, o1, o2, o3, hq _ _ q⟩
theorem len__law_reading (z : Ad) : ∀ ds h Q X, S__law_reading z ds h Q X → ds.length = 2 := fun _ _ _ _ ⟨_, _, _, _, e, _⟩ => by rw [e]; rfl
theorem mo__law_reading (z : Ad) : MoF (S__law_reading z) := fun _ _ _ _ _ _ hq _ ⟨a, b, c, d, e, o1, o2, o3, q⟩ => ⟨a, b, c, d, e, o1, o2, o3, fun v x o i1 i2 i3 i4 i5 => hq _ _ (q v x o i1 i2 i3 i4 i5)⟩
theorem len__law_fields (z : Ad) : ∀ ds h Q X, S__law_fields z ds h Q X → ds.length = 2 := fun _ _ _ _ ⟨_, _, _, _, e, _⟩ => by rw [e]; rfl
theorem mo__law_fields (z : Ad) : MoF (S__law_fields z) := fun _ _ _ _ _ _ hq _ ⟨a, b, c, d, e, o, q⟩ => ⟨a, b, c, d, e, o, hq _ _ q⟩
theorem mo__law_heard (z : Ad) : MoH (S__law_heard z) := fun t mt h Q Q' X X' hq hx q => mt _ _ _ _ _ (fun _ h z => hq _ h z) (fun x h ⟨C, fs, w, v, e1, e2, z⟩ => ⟨C, fs, w, v, e1, e2, hq _ _ z⟩) q
end FM
namespace FM
open PySem PySem.Spec L2 C8 DL
theorem p_is_integer (z : Ad) : ∀ ds h Q X, S_is_integer z ds h Q X → w_is_integer z (endsD Q X) (startD 1 ds) h := pr_isInt
theorem p_is_between (z : Ad) : ∀ ds h Q X, S_is_between z ds h Q X → w_is_between z (endsD Q X) (startD 3 ds) h := pr_isBtw
theorem gcd_step {D0 : EndsD} {h : AH} {a b : Nat} {P : Nat → Prop} (q : ∀ c : Nat, c = Nat.gcd a b → D0.nx [some (.int (c : Nat)), some (.int 0)] h) :
    (wWhile (wTest (wOp (dCmpI fun i j => decide (j < i)) (wVar 1) (wC (.int 0)))) (wPar 0 1 (wCons (wVar 1) (wCons (wOp dMod (wVar 0) (wVar 1)) wNil)))) D0 [some (.int (a : Nat)), some (.int (b : Nat))] h := by
  refine ⟨fun m ρ h' => ∃ c : Nat, ρ = [some (.int (c : Nat)), some (.int (m : Nat))] ∧ h' = h ∧ Nat.gcd c m = Nat.gcd a b, ⟨b, a, rfl, rfl, rfl⟩, ?_⟩
  rintro m _ _ ⟨c, rfl, rfl, e⟩
  simp only [u_asg, u_gN, u_ret, u_retN, u_skip, u_expr, u_ifs, u_c, u_op, u_neg, u_test, u_and, u_or, u_not, u_if, u_nil, u_cons, u_tup, u_lst, u_callP, u_call, u_b, u_chain, u_andV, u_addI, u_subI, u_mulI, u_divI, u_modI, u_powI, u_cmpI, u_eqI, u_eqS, u_eqB, u_abs, u_intI, u_intB, u_newT, u_newF, u_isN, u_notN, wVar, List.set_cons_zero, List.set_cons_succ, List.getElem?_cons_zero, List.getElem?_cons_succ, List.length_cons, List.length_nil, u_lc, u_for, u_r1, u_r2, u_r3, u_num, u_notV, u_yes, u_w0, u_w1, wPar]
  by_cases z : m = 0
  · subst z
    rw [if_neg (by simp)]
    exact q c (by rw [← e]; exact (Nat.gcd_zero_right c).symm)
  · rw [if_pos (by simp; omega)]
    refine ⟨by omega, _, _, rfl, c % m, Nat.mod_lt _ (by omega), m, ?_, trivial, ?_⟩
    · rw [← Int.natCast_emod]
    · rw [← e, Nat.gcd_comm c m, Nat.gcd_rec m c, Nat.gcd_comm]
theorem p_common_divisor (z : Ad) : ∀ ds h Q X, S_common_divisor z ds h Q X → w_common_divisor z (endsD Q X) (startD 2 ds) h := by
  rintro ds h Q X ⟨a, b, rfl, q⟩
  show w_common_divisor z (endsD Q X) [some (.int (a : Nat)), some (.int (b : Nat))] h
  unfold w_common_divisor
  rw [u_seq]
  refine gcd_step (P := fun _ => True) fun c e => ?_
  subst e
  simp only [u_asg, u_gN, u_ret, u_retN, u_skip, u_expr, u_ifs, u_c, u_op, u_neg, u_test, u_and, u_or, u_not, u_if, u_nil, u_cons, u_tup, u_lst, u_callP, u_call, u_b, u_chain, u_andV, u_addI, u_subI, u_mulI, u_divI, u_modI, u_powI, u_cmpI, u_eqI, u_eqS, u_eqB, u_abs, u_intI, u_intB, u_newT, u_newF, u_isN, u_notN, wVar, List.set_cons_zero, List.set_cons_succ, List.getElem?_cons_zero, List.getElem?_cons_succ, List.length_cons, List.length_nil, u_lc, u_for, u_r1, u_r2, u_r3, u_num, u_notV, u_yes, u_w0, u_w1]
  exact fin_of q
theorem p_modulus_of (z : Ad) : ∀ ds h Q X, S_modulus_of z ds h Q X → w_modulus_of z (endsD Q X) (startD 2 ds) h := by
  rintro ds h Q X ⟨c, m, rfl, q⟩
  show w_modulus_of z (endsD Q X) [some (.int c), some (bnD m)] h
  simp only [w_modulus_of, u_asg, u_gN, u_ret, u_retN, u_skip, u_expr, u_ifs, u_c, u_op, u_neg, u_test, u_and, u_or, u_not, u_if, u_nil, u_cons, u_tup, u_lst, u_callP, u_call, u_b, u_chain, u_andV, u_addI, u_subI, u_mulI, u_divI, u_modI, u_powI, u_cmpI, u_eqI, u_eqS, u_eqB, u_abs, u_intI, u_intB, u_newT, u_newF, u_isN, u_notN, wVar, List.set_cons_zero, List.set_cons_succ, List.getElem?_cons_zero, List.getElem?_cons_succ, List.length_cons, List.length_nil, u_lc, u_for, u_r1, u_r2, u_r3, u_num, u_notV, u_yes, u_w0, u_w1]
  cases m with
  | none => exact fin_of q
  | some b =>
    show (if decide (b < c) = true then _ else _)
    unfold md at q
    dsimp only at q
    by_cases z : b < c
    · rw [if_pos (decide_eq_true z)]
      rw [if_pos z] at q
      exact fin_of q
    · rw [if_neg (by simpa using z)]
      rw [if_neg z] at q
      exact fin_of q
theorem md_nn {m : Option Int} {c : Int} (h : 0 ≤ c) : 0 ≤ md m c := by
  unfold md
  cases m with
  | none => exact h
  | some b => dsimp only; split <;> omega
theorem p_shared (z : Ad) : ∀ ds h Q X, S_shared z ds h Q X → w_shared z (endsD Q X) (startD 3 ds) h := by
  rintro ds h Q X ⟨a, b, m, rfl, ha, hb, q⟩
  show w_shared z (endsD Q X) [some (.int a), some (.int b), some (bnD m)] h
  simp only [w_shared, u_asg, u_gN, u_ret, u_retN, u_skip, u_expr, u_ifs, u_c, u_op, u_neg, u_test, u_and, u_or, u_not, u_if, u_nil, u_cons, u_tup, u_lst, u_callP, u_call, u_b, u_chain, u_andV, u_addI, u_subI, u_mulI, u_divI, u_modI, u_powI, u_cmpI, u_eqI, u_eqS, u_eqB, u_abs, u_intI, u_intB, u_newT, u_newF, u_isN, u_notN, wVar, List.set_cons_zero, List.set_cons_succ, List.getElem?_cons_zero, List.getElem?_cons_succ, List.length_cons, List.length_nil, u_lc, u_for, u_r1, u_r2, u_r3, u_num, u_notV, u_yes, u_w0, u_w1]
  refine ⟨trivial, a, m, rfl, trivial, b, m, rfl, trivial, (md m a).toNat, (md m b).toNat, ?_, ?_⟩
  · rw [Int.toNat_of_nonneg (md_nn ha), Int.toNat_of_nonneg (md_nn hb)]
  · have e : Nat.gcd (md m a).toNat (md m b).toNat = Int.gcd (md m a) (md m b) := by
      unfold Int.gcd
      have h1 := md_nn (m := m) ha
      have h2 := md_nn (m := m) hb
      congr 1 <;> omega
    rw [e]
    exact fin_of q
theorem p_do_agree (z : Ad) : ∀ ds h Q X, S_do_agree z ds h Q X → w_do_agree z (endsD Q X) (startD 5 ds) h := by
  rintro ds h Q X ⟨r, s, m, rfl, hr, hs, q⟩
  show w_do_agree z (endsD Q X) [some (pairD r), some (pairD s), some (bnD m), none, none] h
  unfold w_do_agree
  rw [u_seq]
  simp only [u_asg, u_gN, u_ret, u_retN, u_skip, u_expr, u_ifs, u_c, u_op, u_neg, u_test, u_and, u_or, u_not, u_if, u_nil, u_cons, u_tup, u_lst, u_callP, u_call, u_b, u_chain, u_andV, u_addI, u_subI, u_mulI, u_divI, u_modI, u_powI, u_cmpI, u_eqI, u_eqS, u_eqB, u_abs, u_intI, u_intB, u_newT, u_newF, u_isN, u_notN, wVar, List.set_cons_zero, List.set_cons_succ, List.getElem?_cons_zero, List.getElem?_cons_succ, List.length_cons, List.length_nil, u_lc, u_for, u_r1, u_r2, u_r3, u_num, u_notV, u_yes, u_w0, u_w1, ix_p0, ix_p1]
  rw [u_seq]
  simp only [u_asg, u_gN, u_ret, u_retN, u_skip, u_expr, u_ifs, u_c, u_op, u_neg, u_test, u_and, u_or, u_not, u_if, u_nil, u_cons, u_tup, u_lst, u_callP, u_call, u_b, u_chain, u_andV, u_addI, u_subI, u_mulI, u_divI, u_modI, u_powI, u_cmpI, u_eqI, u_eqS, u_eqB, u_abs, u_intI, u_intB, u_newT, u_newF, u_isN, u_notN, wVar, List.set_cons_zero, List.set_cons_succ, List.getElem?_cons_zero, List.getElem?_cons_succ, List.length_cons, List.length_nil, u_lc, u_for, u_r1, u_r2, u_r3, u_num, u_notV, u_yes, u_w0, u_w1, ix_p0, ix_p1]
  refine ⟨trivial, _, _, m, rfl, hr, hs, ?_⟩
  dsimp only
  rw [u_seq]
  simp only [u_asg, u_gN, u_ret, u_retN, u_skip, u_expr, u_ifs, u_c, u_op, u_neg, u_test, u_and, u_or, u_not, u_if, u_nil, u_cons, u_tup, u_lst, u_callP, u_call, u_b, u_chain, u_andV, u_addI, u_subI, u_mulI, u_divI, u_modI, u_powI, u_cmpI, u_eqI, u_eqS, u_eqB, u_abs, u_intI, u_intB, u_newT, u_newF, u_isN, u_notN, wVar, List.set_cons_zero, List.set_cons_succ, List.getElem?_cons_zero, List.getElem?_cons_succ, List.length_cons, List.length_nil, u_lc, u_for, u_r1, u_r2, u_r3, u_num, u_notV, u_yes, u_w0, u_w1, ix_p0, ix_p1]
  unfold agr at q
  by_cases c : r.1 = s.1
  · rw [if_pos (.inl c)] at q
    rw [if_pos (decide_eq_true c)]
    simp only [if_true]
    exact fin_of q
  · rw [if_neg (by simpa using c)]
    by_cases z : Int.gcd (md m r.1) (md m s.1) = 0
    · rw [if_pos (.inr z)] at q
      rw [if_pos (by rw [z]; rfl)]
      exact fin_of q
    · rw [if_neg (by rintro (y | y); exact c y; exact z y)] at q
      rw [if_neg (by simpa using z)]
      exact ⟨by omega, fin_of q⟩
theorem p__law_divisor (z : Ad) : ∀ ds h Q X, S__law_divisor z ds h Q X → w__law_divisor z (endsD Q X) (startD 2 ds) h := p_common_divisor z
/-- the law's own reckoning of agreement -/
theorem p__law_agree (z : Ad) : ∀ ds h Q X, S__law_agree z ds h Q X → w__law_agree z (endsD Q X) (startD 7 ds) h := by
  rintro ds h Q X ⟨r, s, m, rfl, hr, hs, q⟩
  show w__law_agree z (endsD Q X) [some (pairD r), some (pairD s), some (bnD m), none, none, none, none] h
  unfold w__law_agree
  rw [u_seq]
  simp only [u_asg, u_gN, u_ret, u_retN, u_skip, u_expr, u_ifs, u_c, u_op, u_neg, u_test, u_and, u_or, u_not, u_if, u_nil, u_cons, u_tup, u_lst, u_callP, u_call, u_b, u_chain, u_andV, u_addI, u_subI, u_mulI, u_divI, u_modI, u_powI, u_cmpI, u_eqI, u_eqS, u_eqB, u_abs, u_intI, u_intB, u_newT, u_newF, u_isN, u_notN, wVar, List.set_cons_zero, List.set_cons_succ, List.getElem?_cons_zero, List.getElem?_cons_succ, List.length_cons, List.length_nil, u_lc, u_for, u_r1, u_r2, u_r3, u_num, u_notV, u_yes, u_w0, u_w1, ix_p0, ix_p1]
  rw [u_seq]
  simp only [u_asg, u_gN, u_ret, u_retN, u_skip, u_expr, u_ifs, u_c, u_op, u_neg, u_test, u_and, u_or, u_not, u_if, u_nil, u_cons, u_tup, u_lst, u_callP, u_call, u_b, u_chain, u_andV, u_addI, u_subI, u_mulI, u_divI, u_modI, u_powI, u_cmpI, u_eqI, u_eqS, u_eqB, u_abs, u_intI, u_intB, u_newT, u_newF, u_isN, u_notN, wVar, List.set_cons_zero, List.set_cons_succ, List.getElem?_cons_zero, List.getElem?_cons_succ, List.length_cons, List.length_nil, u_lc, u_for, u_r1, u_r2, u_r3, u_num, u_notV, u_yes, u_w0, u_w1, ix_p0, ix_p1]
  unfold agr at q
  by_cases c : r.1 = s.1
  · rw [if_pos (.inl c)] at q
    rw [if_pos (decide_eq_true c)]
    simp only [if_true]
    exact fin_of q
  rw [if_neg (by simpa using c)]
  by_cases y : r.2 - s.2 = 0
  · rw [if_pos (by simpa using y)]
    have e : (if r.1 = s.1 ∨ Int.gcd (md m r.1) (md m s.1) = 0 then decide (r.2 - s.2 = 0) else decide ((r.2 - s.2) % (Int.gcd (md m r.1) (md m s.1) : Nat) = 0)) = true := by
      split
      · simpa using y
      · rw [y]; simp
    rw [e] at q
    rw [decide_eq_true y]
    exact fin_of q
  rw [if_neg (by simpa using y)]
  rw [u_seq]
  simp only [u_asg, u_gN, u_ret, u_retN, u_skip, u_expr, u_ifs, u_c, u_op, u_neg, u_test, u_and, u_or, u_not, u_if, u_nil, u_cons, u_tup, u_lst, u_callP, u_call, u_b, u_chain, u_andV, u_addI, u_subI, u_mulI, u_divI, u_modI, u_powI, u_cmpI, u_eqI, u_eqS, u_eqB, u_abs, u_intI, u_intB, u_newT, u_newF, u_isN, u_notN, wVar, List.set_cons_zero, List.set_cons_succ, List.getElem?_cons_zero, List.getElem?_cons_succ, List.length_cons, List.length_nil, u_lc, u_for, u_r1, u_r2, u_r3, u_num, u_notV, u_yes, u_w0, u_w1, u_tupi, ix_p0]
  refine ⟨(by decide : 2 ≤ sizeLine), fun p hp => ?_⟩
  refine comp_pure (fun x => match x with | .int c => some (.int (md m c)) | _ => none) (fun _ => trivial) (by decide : 2 ≤ sizeLine) ?_ ?_
  · intro x acc K hx la k
    obtain ⟨v, rfl⟩ : ∃ v, x = D.int v := by
      have : x = .int r.1 ∨ x = .int s.1 := by simpa using hx
      rcases this with rfl | rfl <;> exact ⟨_, rfl⟩
    dsimp only at k
    simp only [u_asg, u_gN, u_ret, u_retN, u_skip, u_expr, u_ifs, u_c, u_op, u_neg, u_test, u_and, u_or, u_not, u_if, u_nil, u_cons, u_tup, u_lst, u_callP, u_call, u_b, u_chain, u_andV, u_addI, u_subI, u_mulI, u_divI, u_modI, u_powI, u_cmpI, u_eqI, u_eqS, u_eqB, u_abs, u_intI, u_intB, u_newT, u_newF, u_isN, u_notN, wVar, List.set_cons_zero, List.set_cons_succ, List.getElem?_cons_zero, List.getElem?_cons_succ, List.length_cons, List.length_nil, u_lc, u_for, u_r1, u_r2, u_r3, u_num, u_notV, u_yes, u_w0, u_w1, if_true, wOrV]
    have hk : ∀ z, z = md m v → ∃ acc', (up h p (.lst acc)) p = some (.lst acc') ∧ acc'.length < sizeLine ∧ K (up (up h p (.lst acc)) p (.lst (acc' ++ [D.int z]))) := fun z e => by
      subst e
      exact ⟨acc, up_same, la, by rw [up_up]; exact k⟩
    cases m with
    | none =>
      rw [show bnD none = D.non from rfl, u_isN]
      simp only [if_true]
      exact ⟨.inr (.inl ⟨by decide, by decide⟩), hk _ (by show v * 1 = v; omega)⟩
    | some b =>
      have n1 : ∀ (R : KD) (g : AH), R (.bl false) g → dIsN (fun b => b) (.int b) .non g R := fun _ _ z => z
      refine n1 _ _ ?_
      simp only [Bool.false_eq_true, if_false]
      rw [show bnD (some b) = D.int b from rfl, u_cmpI, u_intB, u_mulI]
      have bb : (if decide (v ≤ b) = true then (1 : Int) else 0) = 0 ∨ (if decide (v ≤ b) = true then (1 : Int) else 0) = 1 := by split <;> omega
      refine ⟨.inr (.inl (by omega)), hk _ ?_⟩
      unfold md
      dsimp only
      by_cases z : v ≤ b
      · rw [if_pos (decide_eq_true z), if_neg (by omega)]; omega
      · rw [if_neg (by simpa using z), if_pos (by omega)]; omega
  · refine endF hp ?_
    have er : ([D.int r.1, D.int s.1]).filterMap (fun x => match x with | .int c => some (D.int (md m c)) | _ => none) = [.int (md m r.1), .int (md m s.1)] := rfl
    rw [er]
    rw [u_seq]
    simp only [u_asg, u_gN, u_ret, u_retN, u_skip, u_expr, u_ifs, u_c, u_op, u_neg, u_test, u_and, u_or, u_not, u_if, u_nil, u_cons, u_tup, u_lst, u_callP, u_call, u_b, u_chain, u_andV, u_addI, u_subI, u_mulI, u_divI, u_modI, u_powI, u_cmpI, u_eqI, u_eqS, u_eqB, u_abs, u_intI, u_intB, u_newT, u_newF, u_isN, u_notN, wVar, List.set_cons_zero, List.set_cons_succ, List.getElem?_cons_zero, List.getElem?_cons_succ, List.length_cons, List.length_nil, u_lc, u_for, u_r1, u_r2, u_r3, u_num, u_notV, u_yes, u_w0, u_w1]
    rw [u_ixLd at0, u_ixLd at1]
    have g1 := md_nn (m := m) hr
    have g2 := md_nn (m := m) hs
    refine ⟨trivial, (md m r.1).toNat, (md m s.1).toNat, ?_, ?_⟩
    · rw [Int.toNat_of_nonneg g1, Int.toNat_of_nonneg g2]
    have eg : Nat.gcd (md m r.1).toNat (md m s.1).toNat = Int.gcd (md m r.1) (md m s.1) := by
      unfold Int.gcd
      congr 1 <;> omega
    rw [eg]
    dsimp only
    simp only [u_asg, u_gN, u_ret, u_retN, u_skip, u_expr, u_ifs, u_c, u_op, u_neg, u_test, u_and, u_or, u_not, u_if, u_nil, u_cons, u_tup, u_lst, u_callP, u_call, u_b, u_chain, u_andV, u_addI, u_subI, u_mulI, u_divI, u_modI, u_powI, u_cmpI, u_eqI, u_eqS, u_eqB, u_abs, u_intI, u_intB, u_newT, u_newF, u_isN, u_notN, wVar, List.set_cons_zero, List.set_cons_succ, List.getElem?_cons_zero, List.getElem?_cons_succ, List.length_cons, List.length_nil, u_lc, u_for, u_r1, u_r2, u_r3, u_num, u_notV, u_yes, u_w0, u_w1]
    by_cases z : Int.gcd (md m r.1) (md m s.1) = 0
    · rw [if_pos (.inr z)] at q
      rw [if_neg (by rw [z]; decide)]
      rw [decide_eq_false y] at q
      exact fin_of q
    · rw [if_neg (by rintro (w | w); exact c w; exact z w)] at q
      rw [if_pos (decide_eq_true (show (0 : Int) < (Int.gcd (md m r.1) (md m s.1) : Nat) by omega))]
      exact ⟨by omega, fin_of q⟩
theorem p__law_size (z : Ad) : ∀ ds h Q X, S__law_size z ds h Q X → w__law_size z (endsD Q X) (startD 2 ds) h := by
  rintro ds h Q X ⟨n, p, rfl, hp, hn, q⟩
  show w__law_size z (endsD Q X) [some (.ref p), none] h
  have I := Inv0.start hp
  have fin0 : ∀ v g, 1 ≤ v → v ≤ 10000 → Inv0 h p (n + 10) g → fin Q (.int v) g := fun v g h1 h2 I => by
    obtain ⟨o, r, s⟩ := I.sub
    exact fin_sub s (q v o h1 h2 r)
  unfold w__law_size
  rw [u_seq]
  simp only [u_asg, u_gN, u_ret, u_retN, u_skip, u_expr, u_ifs, u_c, u_op, u_neg, u_test, u_and, u_or, u_not, u_if, u_nil, u_cons, u_tup, u_lst, u_callP, u_call, u_b, u_chain, u_andV, u_addI, u_subI, u_mulI, u_divI, u_modI, u_powI, u_cmpI, u_eqI, u_eqS, u_eqB, u_abs, u_intI, u_intB, u_newT, u_newF, u_isN, u_notN, wVar, List.set_cons_zero, List.set_cons_succ, List.getElem?_cons_zero, List.getElem?_cons_succ, List.length_cons, List.length_nil, u_lc, u_for, u_r1, u_r2, u_r3, u_num, u_notV, u_yes, u_w0, u_w1]
  refine ⟨trivial, draw_go I (by omega) (div_ok (by decide) (by decide)) fun v1 o1 a1 b1 I _ => ?_⟩
  simp only [u_asg, u_gN, u_ret, u_retN, u_skip, u_expr, u_ifs, u_c, u_op, u_neg, u_test, u_and, u_or, u_not, u_if, u_nil, u_cons, u_tup, u_lst, u_callP, u_call, u_b, u_chain, u_andV, u_addI, u_subI, u_mulI, u_divI, u_modI, u_powI, u_cmpI, u_eqI, u_eqS, u_eqB, u_abs, u_intI, u_intB, u_newT, u_newF, u_isN, u_notN, wVar, List.set_cons_zero, List.set_cons_succ, List.getElem?_cons_zero, List.getElem?_cons_succ, List.length_cons, List.length_nil, u_lc, u_for, u_r1, u_r2, u_r3, u_num, u_notV, u_yes, u_w0, u_w1]
  refine ⟨(by decide : 8 ≤ sizeLine), trivial, draw_go I (by omega) (div_ok (by decide) (by decide)) fun v2 o2 a2 b2 I _ => ?_⟩
  refine at_some (es := [2, 4, 6, 8, 12, 24, 36, 60]) a2 (by simpa using b2) fun u2 hu2 => ?_
  have c2 : 1 ≤ u2 ∧ u2 ≤ 60 := by simp at hu2; omega
  refine ⟨(by decide : 4 ≤ sizeLine), trivial, draw_go I (by omega) (div_ok (by decide) (by decide)) fun v3 o3 a3 b3 I _ => ?_⟩
  refine at_some (es := [3, 7, 31, 97]) a3 (by simpa using b3) fun u3 hu3 => ?_
  have c3 : 1 ≤ u3 ∧ u3 ≤ 100 := by simp at hu3; omega
  refine ⟨(by decide : 3 ≤ sizeLine), ?_⟩
  refine ⟨trivial, draw_go I (by omega) (div_ok (by decide) (by decide)) fun v4 o4 a4 b4 I _ => ?_⟩
  simp only [u_asg, u_gN, u_ret, u_retN, u_skip, u_expr, u_ifs, u_c, u_op, u_neg, u_test, u_and, u_or, u_not, u_if, u_nil, u_cons, u_tup, u_lst, u_callP, u_call, u_b, u_chain, u_andV, u_addI, u_subI, u_mulI, u_divI, u_modI, u_powI, u_cmpI, u_eqI, u_eqS, u_eqB, u_abs, u_intI, u_intB, u_newT, u_newF, u_isN, u_notN, wVar, List.set_cons_zero, List.set_cons_succ, List.getElem?_cons_zero, List.getElem?_cons_succ, List.length_cons, List.length_nil, u_lc, u_for, u_r1, u_r2, u_r3, u_num, u_notV, u_yes, u_w0, u_w1]
  refine ⟨⟨by decide, by decide, by decide⟩, trivial, draw_go I (by omega) (div_ok (by decide) (by decide)) fun v5 o5 a5 b5 I _ => ?_⟩
  simp only [u_asg, u_gN, u_ret, u_retN, u_skip, u_expr, u_ifs, u_c, u_op, u_neg, u_test, u_and, u_or, u_not, u_if, u_nil, u_cons, u_tup, u_lst, u_callP, u_call, u_b, u_chain, u_andV, u_addI, u_subI, u_mulI, u_divI, u_modI, u_powI, u_cmpI, u_eqI, u_eqS, u_eqB, u_abs, u_intI, u_intB, u_newT, u_newF, u_isN, u_notN, wVar, List.set_cons_zero, List.set_cons_succ, List.getElem?_cons_zero, List.getElem?_cons_succ, List.length_cons, List.length_nil, u_lc, u_for, u_r1, u_r2, u_r3, u_num, u_notV, u_yes, u_w0, u_w1]
  have e4 : (10 : Int) ^ Int.toNat 4 = 10000 := by decide
  refine ⟨(by decide : 2 ≤ sizeLine), _, _, rfl, rfl, (by decide : 5 ≤ sizeLine), ?_⟩
  rw [u_newF]
  refine ⟨trivial, draw_go I (by omega) (div_ok (by decide) (by decide)) fun v6 o6 a6 b6 I _ => ?_⟩
  refine at_some (es := [1 + v1, u2, u3, 1 + v4, 10 ^ Int.toNat 4 - v5]) a6 (by simpa using b6) fun u hu => ?_
  rw [e4] at hu
  have cu : 1 ≤ u ∧ u ≤ 10000 := by simp at hu; omega
  exact fin0 _ _ cu.1 cu.2 (I.mono (by omega))
theorem p__law_source (z : Ad) : ∀ ds h Q X, S__law_source z ds h Q X → w__law_source z (endsD Q X) (startD 4 ds) h := by
  rintro ds h Q X ⟨n, p, rfl, hp, hn, q⟩
  show w__law_source z (endsD Q X) [some (.ref p), none, none, none] h
  have I := Inv0.start hp
  have fin0 : ∀ g zs h', SrcOk g zs → Inv0 h p (n + 20) h' → fin Q (srcD g zs) h' := fun g zs h' l I => by
    obtain ⟨o, r, s⟩ := I.sub
    exact fin_sub s (q g zs o l r)
  unfold w__law_source
  rw [u_seq]
  simp only [u_asg, u_gN, u_ret, u_retN, u_skip, u_expr, u_ifs, u_c, u_op, u_neg, u_test, u_and, u_or, u_not, u_if, u_nil, u_cons, u_tup, u_lst, u_callP, u_call, u_b, u_chain, u_andV, u_addI, u_subI, u_mulI, u_divI, u_modI, u_powI, u_cmpI, u_eqI, u_eqS, u_eqB, u_abs, u_intI, u_intB, u_newT, u_newF, u_isN, u_notN, wVar, List.set_cons_zero, List.set_cons_succ, List.getElem?_cons_zero, List.getElem?_cons_succ, List.length_cons, List.length_nil, u_lc, u_for, u_r1, u_r2, u_r3, u_num, u_notV, u_yes, u_w0, u_w1]
  refine ⟨(by decide : 3 ≤ sizeLine), trivial, draw_go I (by omega) (div_ok (by decide) (by decide)) fun v1 o1 a1 b1 I _ => ?_⟩
  refine at_three a1 b1 fun far hf => ?_
  have cf : 1 ≤ far ∧ far ≤ 400 := by omega
  generalize up _ p o1 = g at I ⊢
  rw [u_seq]
  simp only [u_asg, u_gN, u_ret, u_retN, u_skip, u_expr, u_ifs, u_c, u_op, u_neg, u_test, u_and, u_or, u_not, u_if, u_nil, u_cons, u_tup, u_lst, u_callP, u_call, u_b, u_chain, u_andV, u_addI, u_subI, u_mulI, u_divI, u_modI, u_powI, u_cmpI, u_eqI, u_eqS, u_eqB, u_abs, u_intI, u_intB, u_newT, u_newF, u_isN, u_notN, wVar, List.set_cons_zero, List.set_cons_succ, List.getElem?_cons_zero, List.getElem?_cons_succ, List.length_cons, List.length_nil, u_lc, u_for, u_r1, u_r2, u_r3, u_num, u_notV, u_yes, u_w0, u_w1, wDnew]
  intro d hd
  have d0 := I.fresh hd
  replace I := I.new (o := .dK []) hd
  have hd1 : (up g d (.dK [])) d = some (.dK (toK [])) := up_same
  generalize up g d (.dK []) = g at I hd1 ⊢
  refine seq_go (fun ρ h' => ∃ e es, ρ = [some (.ref p), some (.int far), some (.ref d), e] ∧ Inv0 h p (n + 12) h' ∧ h' d = some (.dK (toK es)) ∧ es.length ≤ 5 ∧ ∀ e ∈ es, 1 ≤ e.1 ∧ e.1 ≤ 400 ∧ -30 ≤ e.2 ∧ e.2 ≤ 30) (fun K k => ?_) ?_
  · simp only [u_asg, u_gN, u_ret, u_retN, u_skip, u_expr, u_ifs, u_c, u_op, u_neg, u_test, u_and, u_or, u_not, u_if, u_nil, u_cons, u_tup, u_lst, u_callP, u_call, u_b, u_chain, u_andV, u_addI, u_subI, u_mulI, u_divI, u_modI, u_powI, u_cmpI, u_eqI, u_eqS, u_eqB, u_abs, u_intI, u_intB, u_newT, u_newF, u_isN, u_notN, wVar, List.set_cons_zero, List.set_cons_succ, List.getElem?_cons_zero, List.getElem?_cons_succ, List.length_cons, List.length_nil, u_lc, u_for, u_r1, u_r2, u_r3, u_num, u_notV, u_yes, u_w0, u_w1]
    refine ⟨trivial, draw_go I (by omega) (div_ok (by decide) (by decide)) fun v o a b I keep => ?_⟩
    rw [← keep d d0.2] at hd1
    generalize up g p o = g at I hd1 ⊢
    obtain ⟨vn, rfl⟩ := Int.eq_ofNat_of_zero_le a
    simp only [u_asg, u_gN, u_ret, u_retN, u_skip, u_expr, u_ifs, u_c, u_op, u_neg, u_test, u_and, u_or, u_not, u_if, u_nil, u_cons, u_tup, u_lst, u_callP, u_call, u_b, u_chain, u_andV, u_addI, u_subI, u_mulI, u_divI, u_modI, u_powI, u_cmpI, u_eqI, u_eqS, u_eqB, u_abs, u_intI, u_intB, u_newT, u_newF, u_isN, u_notN, wVar, List.set_cons_zero, List.set_cons_succ, List.getElem?_cons_zero, List.getElem?_cons_succ, List.length_cons, List.length_nil, u_lc, u_for, u_r1, u_r2, u_r3, u_num, u_notV, u_yes, u_w0, u_w1]
    refine ⟨by omega, by omega, ?_⟩
    rw [Int.toNat_natCast]
    refine loop_go (fun i ρ h' => ∃ e es, ρ = [some (.ref p), some (.int far), some (.ref d), e] ∧ Inv0 h p (n + 2 + 2 * i) h' ∧ h' d = some (.dK (toK es)) ∧ es.length ≤ i ∧ ∀ e ∈ es, 1 ≤ e.1 ∧ e.1 ≤ 400 ∧ -30 ≤ e.2 ∧ e.2 ≤ 30) ⟨_, [], rfl, by simpa using I.mono (by omega), hd1, Nat.le_refl _, fun e he => by cases he⟩ (fun _ _ _ _ => trivial) ?_ ?_
    · rintro i x _ g K2 hi ⟨e, es, rfl, I, hd1, l1, rw1⟩ k2
      obtain ⟨rfl, li⟩ := intsD_get hi
      rw [u_gN]
      dsimp only [List.set_cons_zero, List.set_cons_succ]
      simp only [u_asg, u_gN, u_ret, u_retN, u_skip, u_expr, u_ifs, u_c, u_op, u_neg, u_test, u_and, u_or, u_not, u_if, u_nil, u_cons, u_tup, u_lst, u_callP, u_call, u_b, u_chain, u_andV, u_addI, u_subI, u_mulI, u_divI, u_modI, u_powI, u_cmpI, u_eqI, u_eqS, u_eqB, u_abs, u_intI, u_intB, u_newT, u_newF, u_isN, u_notN, wVar, List.set_cons_zero, List.set_cons_succ, List.getElem?_cons_zero, List.getElem?_cons_succ, List.length_cons, List.length_nil, u_lc, u_for, u_r1, u_r2, u_r3, u_num, u_notV, u_yes, u_w0, u_w1, wDput]
      refine ⟨(by decide : 5 ≤ sizeLine), trivial, draw_go I (by omega) (div_ok (by decide) (by decide)) fun w o a2 b2 I keep => ?_⟩
      rw [← keep d d0.2] at hd1
      generalize up g p o = g at I hd1 ⊢
      refine at_some (es := [1, 2, -1, 7, -30]) a2 (by simpa using b2) fun u hu => ?_
      refine ⟨trivial, draw_go I (by omega) (div_ok (by omega) (by omega)) fun w2 o a3 b3 I keep => ?_⟩
      rw [← keep d d0.2] at hd1
      generalize up g p o = g at I hd1 ⊢
      simp only [u_asg, u_gN, u_ret, u_retN, u_skip, u_expr, u_ifs, u_c, u_op, u_neg, u_test, u_and, u_or, u_not, u_if, u_nil, u_cons, u_tup, u_lst, u_callP, u_call, u_b, u_chain, u_andV, u_addI, u_subI, u_mulI, u_divI, u_modI, u_powI, u_cmpI, u_eqI, u_eqS, u_eqB, u_abs, u_intI, u_intB, u_newT, u_newF, u_isN, u_notN, wVar, List.set_cons_zero, List.set_cons_succ, List.getElem?_cons_zero, List.getElem?_cons_succ, List.length_cons, List.length_nil, u_lc, u_for, u_r1, u_r2, u_r3, u_num, u_notV, u_yes, u_w0, u_w1]
      obtain ⟨fs, ef, lf, mf⟩ := put_ints es (1 + w2) u
      have hu : u = 1 ∨ u = 2 ∨ u = -1 ∨ u = 7 ∨ u = -30 := by simpa using hu
      refine ⟨d, toK es, _, rfl, hd1, rfl, ?_, ?_⟩
      · have : (toK es).length = es.length := by simp [toK]
        have : 1000 < sizeLine := by decide
        omega
      · rw [ef]
        refine k2 _ _ ⟨_, fs, rfl, (I.mono (by omega)).put d0.1, up_same, by omega, fun f hf => ?_⟩
        rcases mf f hf with h | h
        · exact rw1 f h
        · subst h
          exact ⟨by omega, by omega, by omega, by omega⟩
    · rintro _ g ⟨e, es, rfl, I, hd1, l1, rw1⟩
      rw [intsD_len] at I l1
      exact k _ _ ⟨_, es, rfl, I.mono (by omega), hd1, by omega, rw1⟩
  rintro _ g ⟨e, es, rfl, I, hd1, l1, rw1⟩
  simp only [u_asg, u_gN, u_ret, u_retN, u_skip, u_expr, u_ifs, u_c, u_op, u_neg, u_test, u_and, u_or, u_not, u_if, u_nil, u_cons, u_tup, u_lst, u_callP, u_call, u_b, u_chain, u_andV, u_addI, u_subI, u_mulI, u_divI, u_modI, u_powI, u_cmpI, u_eqI, u_eqS, u_eqB, u_abs, u_intI, u_intB, u_newT, u_newF, u_isN, u_notN, wVar, List.set_cons_zero, List.set_cons_succ, List.getElem?_cons_zero, List.getElem?_cons_succ, List.length_cons, List.length_nil, u_lc, u_for, u_r1, u_r2, u_r3, u_num, u_notV, u_yes, u_w0, u_w1]
  refine ⟨⟨by decide, by decide, by decide⟩, ⟨by decide, by decide, by decide⟩, (by decide : 2 ≤ sizeLine), trivial, draw_go I (by omega) (div_ok (by decide) (by decide)) fun v o a b I keep => ?_⟩
  rw [← keep d d0.2] at hd1
  generalize up g p o = g at I hd1 ⊢
  refine at_some (es := [10 ^ Int.toNat 5, 10 ^ Int.toNat 29]) a (by simpa using b) fun u hu => ?_
  refine ⟨trivial, draw_go I (by omega) (div_ok (by decide) (by decide)) fun w o wa wb I keep => ?_⟩
  rw [← keep d d0.2] at hd1
  generalize up g p o = g at I hd1 ⊢
  have hu : u = 10 ^ Int.toNat 5 ∨ u = 10 ^ Int.toNat 29 := by simpa using hu
  have e5 : (10 : Int) ^ Int.toNat 5 = 100000 := by decide
  have e29 : (10 : Int) ^ Int.toNat 29 = 100000000000000000000000000000 := by decide
  have e29' : (10 : Int) ^ 29 = 100000000000000000000000000000 := by decide
  simp only [u_asg, u_gN, u_ret, u_retN, u_skip, u_expr, u_ifs, u_c, u_op, u_neg, u_test, u_and, u_or, u_not, u_if, u_nil, u_cons, u_tup, u_lst, u_callP, u_call, u_b, u_chain, u_andV, u_addI, u_subI, u_mulI, u_divI, u_modI, u_powI, u_cmpI, u_eqI, u_eqS, u_eqB, u_abs, u_intI, u_intB, u_newT, u_newF, u_isN, u_notN, wVar, List.set_cons_zero, List.set_cons_succ, List.getElem?_cons_zero, List.getElem?_cons_succ, List.length_cons, List.length_nil, u_lc, u_for, u_r1, u_r2, u_r3, u_num, u_notV, u_yes, u_w0, u_w1, wSortIt]
  refine ⟨d, es, rfl, hd1, fun zs pz _ => ?_⟩
  exact ⟨_, _, rfl, rfl, (by decide : 2 ≤ sizeLine), fin0 _ _ _ ⟨by rw [pz.length_eq]; exact l1, by omega, by omega, fun e he => rw1 e (pz.mem_iff.mp he)⟩ (I.mono (by omega))⟩
theorem p__law_length (z : Ad) : ∀ ds h Q X, S__law_length z ds h Q X → w__law_length z (endsD Q X) (startD 4 ds) h := by
  rintro ds h Q X ⟨g, zs, w, rfl, so, z1, z2, q⟩
  show w__law_length z (endsD Q X) [some (srcD g zs), some (.int w), none, none] h
  simp only [w__law_length, u_asg, u_gN, u_ret, u_retN, u_skip, u_expr, u_ifs, u_c, u_op, u_neg, u_test, u_and, u_or, u_not, u_if, u_nil, u_cons, u_tup, u_lst, u_callP, u_call, u_b, u_chain, u_andV, u_addI, u_subI, u_mulI, u_divI, u_modI, u_powI, u_cmpI, u_eqI, u_eqS, u_eqB, u_abs, u_intI, u_intB, u_newT, u_newF, u_isN, u_notN, wVar, List.set_cons_zero, List.set_cons_succ, List.getElem?_cons_zero, List.getElem?_cons_succ, List.length_cons, List.length_nil, u_lc, u_for, u_r1, u_r2, u_r3, u_num, u_notV, u_yes, u_w0, u_w1, u_tupi]
  refine ⟨_, _, rfl, at0, _, _, rfl, at1, fun p hp => ?_⟩
  have big : 1000 ≤ sizeLine := by decide
  have lz := so.ln
  refine comp_pure (fun x => match x with | .tup [.int a, .int b] => some (.int (b * (a % w))) | _ => none) (fun _ => trivial) (by rw [List.length_map]; omega) ?_ ?_
  · intro y acc K hy la k
    obtain ⟨e, he, rfl⟩ := List.mem_map.mp hy
    refine ⟨_, rfl, rfl, _, _, rfl, _, _, rfl, rfl, ?_⟩
    simp only [u_asg, u_gN, u_ret, u_retN, u_skip, u_expr, u_ifs, u_c, u_op, u_neg, u_test, u_and, u_or, u_not, u_if, u_nil, u_cons, u_tup, u_lst, u_callP, u_call, u_b, u_chain, u_andV, u_addI, u_subI, u_mulI, u_divI, u_modI, u_powI, u_cmpI, u_eqI, u_eqS, u_eqB, u_abs, u_intI, u_intB, u_newT, u_newF, u_isN, u_notN, wVar, List.set_cons_zero, List.set_cons_succ, List.getElem?_cons_zero, List.getElem?_cons_succ, List.length_cons, List.length_nil, u_lc, u_for, u_r1, u_r2, u_r3, u_num, u_notV, u_yes, u_w0, u_w1, if_true]
    have b1 := Int.emod_nonneg e.1 (show w ≠ 0 by omega)
    have b2 := Int.emod_lt_of_pos e.1 (show 0 < w by omega)
    exact ⟨by omega, .inr (.inl (by omega)), acc, up_same, la, by rw [up_up]; exact k⟩
  · refine endF hp ?_
    have er : (zs.map pairD).filterMap (fun x => match x with | .tup [.int a, .int b] => some (D.int (b * (a % w))) | _ => none) = (zs.map fun p => p.2 * (p.1 % w)).map D.int := by
      rw [List.filterMap_map, List.map_map]
      exact List.filterMap_eq_map ▸ rfl
    rw [er]
    simp only [u_asg, u_gN, u_ret, u_retN, u_skip, u_expr, u_ifs, u_c, u_op, u_neg, u_test, u_and, u_or, u_not, u_if, u_nil, u_cons, u_tup, u_lst, u_callP, u_call, u_b, u_chain, u_andV, u_addI, u_subI, u_mulI, u_divI, u_modI, u_powI, u_cmpI, u_eqI, u_eqS, u_eqB, u_abs, u_intI, u_intB, u_newT, u_newF, u_isN, u_notN, wVar, List.set_cons_zero, List.set_cons_succ, List.getElem?_cons_zero, List.getElem?_cons_succ, List.length_cons, List.length_nil, u_lc, u_for, u_r1, u_r2, u_r3, u_num, u_notV, u_yes, u_w0, u_w1, dSum]
    exact ⟨_, _, rfl, rfl, fin_of q⟩
theorem p__law_reading (z : Ad) : ∀ ds h Q X, S__law_reading z ds h Q X → w__law_reading z (endsD Q X) (startD 4 ds) h := by
  rintro ds h Q X ⟨n, p, g, zs, rfl, so, hp, hn, q⟩
  show w__law_reading z (endsD Q X) [some (.ref p), some (srcD g zs), none, none] h
  have I := Inv0.start hp
  have fin0 : ∀ (w e : Int) h', 1 ≤ w → w ≤ 10000 → -10000 ≤ e → e ≤ 10000 → Inv0 h p (n + 20) h' → fin Q (pairD (w, lenS g zs w + e)) h' := fun w e h' h1 h2 h3 h4 I => by
    obtain ⟨o, pr, s⟩ := I.sub
    exact fin_sub s (q w e o h1 h2 h3 h4 pr)
  unfold w__law_reading
  rw [u_seq]
  simp only [u_asg, u_gN, u_ret, u_retN, u_skip, u_expr, u_ifs, u_c, u_op, u_neg, u_test, u_and, u_or, u_not, u_if, u_nil, u_cons, u_tup, u_lst, u_callP, u_call, u_b, u_chain, u_andV, u_addI, u_subI, u_mulI, u_divI, u_modI, u_powI, u_cmpI, u_eqI, u_eqS, u_eqB, u_abs, u_intI, u_intB, u_newT, u_newF, u_isN, u_notN, wVar, List.set_cons_zero, List.set_cons_succ, List.getElem?_cons_zero, List.getElem?_cons_succ, List.length_cons, List.length_nil, u_lc, u_for, u_r1, u_r2, u_r3, u_num, u_notV, u_yes, u_w0, u_w1]
  refine ⟨trivial, n, p, rfl, hp, hn, fun z o z1 z2 r => ?_⟩
  replace I := I.draw r
  generalize up h p o = h1 at I ⊢
  dsimp only
  rw [u_seq]
  simp only [u_asg, u_gN, u_ret, u_retN, u_skip, u_expr, u_ifs, u_c, u_op, u_neg, u_test, u_and, u_or, u_not, u_if, u_nil, u_cons, u_tup, u_lst, u_callP, u_call, u_b, u_chain, u_andV, u_addI, u_subI, u_mulI, u_divI, u_modI, u_powI, u_cmpI, u_eqI, u_eqS, u_eqB, u_abs, u_intI, u_intB, u_newT, u_newF, u_isN, u_notN, wVar, List.set_cons_zero, List.set_cons_succ, List.getElem?_cons_zero, List.getElem?_cons_succ, List.length_cons, List.length_nil, u_lc, u_for, u_r1, u_r2, u_r3, u_num, u_notV, u_yes, u_w0, u_w1]
  refine ⟨trivial, draw_go I (by omega) (div_ok (by decide) (by decide)) fun v o a b I _ => ?_⟩
  generalize up h1 p o = h1 at I ⊢
  simp only [u_asg, u_gN, u_ret, u_retN, u_skip, u_expr, u_ifs, u_c, u_op, u_neg, u_test, u_and, u_or, u_not, u_if, u_nil, u_cons, u_tup, u_lst, u_callP, u_call, u_b, u_chain, u_andV, u_addI, u_subI, u_mulI, u_divI, u_modI, u_powI, u_cmpI, u_eqI, u_eqS, u_eqB, u_abs, u_intI, u_intB, u_newT, u_newF, u_isN, u_notN, wVar, List.set_cons_zero, List.set_cons_succ, List.getElem?_cons_zero, List.getElem?_cons_succ, List.length_cons, List.length_nil, u_lc, u_for, u_r1, u_r2, u_r3, u_num, u_notV, u_yes, u_w0, u_w1]
  refine ⟨(by decide : 6 ≤ sizeLine), trivial, draw_go I (by omega) (div_ok (by decide) (by decide)) fun v2 o a2 b2 I _ => ?_⟩
  generalize up h1 p o = h1 at I ⊢
  refine at_some (es := [0, 0, 0, 0, v - 4, z]) a2 (by simpa using b2) fun u hu => ?_
  have hu : u = 0 ∨ u = v - 4 ∨ u = z := by simpa using hu
  refine ⟨trivial, g, zs, z, rfl, so, z1, z2, ?_⟩
  exact ⟨(by decide : 2 ≤ sizeLine), fin0 z u _ z1 z2 (by omega) (by omega) (I.mono (by omega))⟩
end FM
/-! a comprehension over a typed list -/
namespace DL
open PySem PySem.Spec L2 C8
theorem comp_map {α : Type} {st : AH → Prop} {g : WG} {tt : WT} {te : WE} {vs : List Nat} {ρ : EnvD} {p : Addr} {h : AH} {Q : AH → Prop} (e f : α → D) (xs : List α) (hst : ∀ acc, st (up h p (.lst acc))) (hl : xs.length ≤ sizeLine)
    (hs : ∀ x acc (K : AH → Prop), x ∈ xs → acc.length < sizeLine → K (up h p (.lst (acc ++ [f x]))) → g (e x) (wipeD ρ vs) (up h p (.lst acc)) (fun ρ2 h2 => tt ρ2 h2 (fun b h3 => if b = true then te ρ2 h3 (fun y h4 => ∃ acc, h4 p = some (.lst acc) ∧ acc.length < sizeLine ∧ K (up h4 p (.lst (acc ++ [y])))) (fun _ _ => False) else K h3) (fun _ _ => False)) (fun _ _ => False))
    (hd : Q (up h p (.lst (xs.map f)))) : compD st g tt te vs ρ p (xs.map e) (up h p (.lst [])) Q := by
  refine comp_go (fun i h' => h' = up h p (.lst ((xs.take i).map f))) (by rw [List.take_zero]; rfl) (fun i h' e => e ▸ hst _) ?_ ?_
  · rintro i x h' K hi rfl k
    rw [List.getElem?_map] at hi
    obtain ⟨a, ha, rfl⟩ := Option.map_eq_some_iff.mp hi
    have li := (List.getElem?_eq_some_iff.mp ha).1
    refine hs a _ K (List.mem_of_getElem? ha) (by rw [List.length_map, List.length_take]; omega) (k _ ?_)
    rw [List.take_succ, ha, Option.toList_some, List.map_append]; rfl
  · rintro h' rfl
    rw [List.length_map, List.take_length]; exact hd
end DL
namespace FM
open PySem PySem.Spec L2 C8 DL
def nonB : D → Bool
  | .non => true
  | _ => false
theorem isN_not (x : D) {h : AH} {Q : KD} : dIsN (fun b => !b) x .non h Q = Q (.bl (!nonB x)) h := by cases x <;> rfl
theorem isN_yes (x : D) {h : AH} {Q : KD} : dIsN (fun b => b) x .non h Q = Q (.bl (nonB x)) h := by cases x <;> rfl
theorem nonB_ne {x : D} (hx : x ≠ .non) : nonB x = false := by cases x <;> first | rfl | exact absurd rfl hx
theorem isBd_eq {x : D} (hx : x ≠ .non) : isBd x = btw x 0 10000 := by cases x <;> first | rfl | exact absurd rfl hx
theorem p_need_capacity_meters (z : Ad) : ∀ ds h Q X, S_need_capacity_meters z ds h Q X → w_need_capacity_meters z (endsD Q X) (startD 1 ds) h := by
  rintro ds h Q X ⟨x, t, rfl, ht, q, r⟩
  show w_need_capacity_meters z (endsD Q X) [some x] h
  unfold w_need_capacity_meters
  simp only [u_asg, u_gN, u_ret, u_retN, u_skip, u_expr, u_ifs, u_c, u_op, u_neg, u_test, u_and, u_or, u_not, u_if, u_nil, u_cons, u_tup, u_lst, u_callP, u_call, u_b, u_chain, u_andV, u_addI, u_subI, u_mulI, u_divI, u_modI, u_powI, u_cmpI, u_eqI, u_eqS, u_eqB, u_abs, u_intI, u_intB, u_newT, u_newF, u_isN, u_notN, wVar, List.set_cons_zero, List.set_cons_succ, List.getElem?_cons_zero, List.getElem?_cons_succ, List.length_cons, List.length_nil, u_lc, u_for, u_r1, u_r2, u_r3, u_num, u_notV, u_yes, u_w0, u_w1, u_dput, u_get2, u_dget, u_prop, u_fld, u_setF, u_make, u_makeS, u_met, u_calO, u_orT, u_tupIt, u_dc, u_maxDd, u_dnew, u_tupi, ix_p0, ix_p1, wSl, woNone, woSome]
  refine ⟨trivial, x, t, 1, _, rfl, ht, ?_⟩
  cases c : btw x 1 10000 with
  | true =>
    simp only [Bool.not_true, Bool.false_eq_true, if_false]
    exact fin_of (q c)
  | false =>
    simp only [Bool.not_false, if_true, u_raise, u_asg, u_gN, u_ret, u_retN, u_skip, u_expr, u_ifs, u_c, u_op, u_neg, u_test, u_and, u_or, u_not, u_if, u_nil, u_cons, u_tup, u_lst, u_callP, u_call, u_b, u_chain, u_andV, u_addI, u_subI, u_mulI, u_divI, u_modI, u_powI, u_cmpI, u_eqI, u_eqS, u_eqB, u_abs, u_intI, u_intB, u_newT, u_newF, u_isN, u_notN, wVar, List.set_cons_zero, List.set_cons_succ, List.getElem?_cons_zero, List.getElem?_cons_succ, List.length_cons, List.length_nil, u_lc, u_for, u_r1, u_r2, u_r3, u_num, u_notV, u_yes, u_w0, u_w1, u_dput, u_get2, u_dget, u_prop, u_fld, u_setF, u_make, u_makeS, u_met, u_calO, u_orT, u_tupIt, u_dc, u_maxDd, u_dnew, u_tupi, ix_p0, ix_p1, wSl, woNone, woSome]
    exact ⟨trivial, r c h (Sub.refl h)⟩
theorem p_need_bound (z : Ad) : ∀ ds h Q X, S_need_bound z ds h Q X → w_need_bound z (endsD Q X) (startD 1 ds) h := by
  rintro ds h Q X ⟨x, t, rfl, ht, q, r⟩
  show w_need_bound z (endsD Q X) [some x] h
  unfold w_need_bound
  simp only [u_asg, u_gN, u_ret, u_retN, u_skip, u_expr, u_ifs, u_c, u_op, u_neg, u_test, u_and, u_or, u_not, u_if, u_nil, u_cons, u_tup, u_lst, u_callP, u_call, u_b, u_chain, u_andV, u_addI, u_subI, u_mulI, u_divI, u_modI, u_powI, u_cmpI, u_eqI, u_eqS, u_eqB, u_abs, u_intI, u_intB, u_newT, u_newF, u_isN, u_notN, wVar, List.set_cons_zero, List.set_cons_succ, List.getElem?_cons_zero, List.getElem?_cons_succ, List.length_cons, List.length_nil, u_lc, u_for, u_r1, u_r2, u_r3, u_num, u_notV, u_yes, u_w0, u_w1, u_dput, u_get2, u_dget, u_prop, u_fld, u_setF, u_make, u_makeS, u_met, u_calO, u_orT, u_tupIt, u_dc, u_maxDd, u_dnew, u_tupi, ix_p0, ix_p1, wSl, woNone, woSome]
  rw [isN_not]
  by_cases hx : x = .non
  · subst hx
    exact fin_of (q rfl)
  rw [nonB_ne hx]
  dsimp only
  rw [if_pos (by decide)]
  refine ⟨trivial, x, t, 0, _, rfl, ht, ?_⟩
  rw [isBd_eq hx] at q r
  cases c : btw x 0 10000 with
  | true =>
    simp only [Bool.not_true, Bool.false_eq_true, if_false]
    exact fin_of (q c)
  | false =>
    simp only [Bool.not_false, if_true, u_raise, u_asg, u_gN, u_ret, u_retN, u_skip, u_expr, u_ifs, u_c, u_op, u_neg, u_test, u_and, u_or, u_not, u_if, u_nil, u_cons, u_tup, u_lst, u_callP, u_call, u_b, u_chain, u_andV, u_addI, u_subI, u_mulI, u_divI, u_modI, u_powI, u_cmpI, u_eqI, u_eqS, u_eqB, u_abs, u_intI, u_intB, u_newT, u_newF, u_isN, u_notN, wVar, List.set_cons_zero, List.set_cons_succ, List.getElem?_cons_zero, List.getElem?_cons_succ, List.length_cons, List.length_nil, u_lc, u_for, u_r1, u_r2, u_r3, u_num, u_notV, u_yes, u_w0, u_w1, u_dput, u_get2, u_dget, u_prop, u_fld, u_setF, u_make, u_makeS, u_met, u_calO, u_orT, u_tupIt, u_dc, u_maxDd, u_dnew, u_tupi, ix_p0, ix_p1, wSl, woNone, woSome]
    exact ⟨trivial, r c h (Sub.refl h)⟩
theorem p_Meter___init__ (z : Ad) : ∀ ds h Q X, S_Meter___init__ z ds h Q X → w_Meter___init__ z (endsD Q X) (startD 2 ds) h := by
  rintro ds h Q X ⟨a, x, t, rfl, ha, ht, q, r⟩
  show w_Meter___init__ z (endsD Q X) [some (.ref a), some x] h
  unfold w_Meter___init__
  ((try dsimp only); rw [u_seq]; (try simp only [u_asg, u_gN, u_ret, u_retN, u_skip, u_expr, u_ifs, u_c, u_op, u_neg, u_test, u_and, u_or, u_not, u_if, u_nil, u_cons, u_tup, u_lst, u_callP, u_call, u_b, u_chain, u_andV, u_addI, u_subI, u_mulI, u_divI, u_modI, u_powI, u_cmpI, u_eqI, u_eqS, u_eqB, u_abs, u_intI, u_intB, u_newT, u_newF, u_isN, u_notN, wVar, List.set_cons_zero, List.set_cons_succ, List.getElem?_cons_zero, List.getElem?_cons_succ, List.length_cons, List.length_nil, u_lc, u_for, u_r1, u_r2, u_r3, u_num, u_notV, u_yes, u_w0, u_w1, u_dput, u_get2, u_dget, u_prop, u_fld, u_setF, u_make, u_makeS, u_met, u_calO, u_orT, u_tupIt, u_dc, u_maxDd, u_dnew, u_tupi, ix_p0, ix_p1, wSl, woNone, woSome]))
  refine ⟨trivial, x, t, rfl, ht, fun c => ?_, fun c h' s => r c h' s⟩
  ((try dsimp only); rw [u_seq]; (try simp only [u_asg, u_gN, u_ret, u_retN, u_skip, u_expr, u_ifs, u_c, u_op, u_neg, u_test, u_and, u_or, u_not, u_if, u_nil, u_cons, u_tup, u_lst, u_callP, u_call, u_b, u_chain, u_andV, u_addI, u_subI, u_mulI, u_divI, u_modI, u_powI, u_cmpI, u_eqI, u_eqS, u_eqB, u_abs, u_intI, u_intB, u_newT, u_newF, u_isN, u_notN, wVar, List.set_cons_zero, List.set_cons_succ, List.getElem?_cons_zero, List.getElem?_cons_succ, List.length_cons, List.length_nil, u_lc, u_for, u_r1, u_r2, u_r3, u_num, u_notV, u_yes, u_w0, u_w1, u_dput, u_get2, u_dget, u_prop, u_fld, u_setF, u_make, u_makeS, u_met, u_calO, u_orT, u_tupIt, u_dc, u_maxDd, u_dnew, u_tupi, ix_p0, ix_p1, wSl, woNone, woSome]))
  refine ⟨by decide, a, _, rfl, ha, by decide, ?_⟩
  ((try dsimp only); rw [u_seq]; (try simp only [u_asg, u_gN, u_ret, u_retN, u_skip, u_expr, u_ifs, u_c, u_op, u_neg, u_test, u_and, u_or, u_not, u_if, u_nil, u_cons, u_tup, u_lst, u_callP, u_call, u_b, u_chain, u_andV, u_addI, u_subI, u_mulI, u_divI, u_modI, u_powI, u_cmpI, u_eqI, u_eqS, u_eqB, u_abs, u_intI, u_intB, u_newT, u_newF, u_isN, u_notN, wVar, List.set_cons_zero, List.set_cons_succ, List.getElem?_cons_zero, List.getElem?_cons_succ, List.length_cons, List.length_nil, u_lc, u_for, u_r1, u_r2, u_r3, u_num, u_notV, u_yes, u_w0, u_w1, u_dput, u_get2, u_dget, u_prop, u_fld, u_setF, u_make, u_makeS, u_met, u_calO, u_orT, u_tupIt, u_dc, u_maxDd, u_dnew, u_tupi, ix_p0, ix_p1, wSl, woNone, woSome]))
  refine ⟨a, _, rfl, up_same, by decide, ?_⟩
  rw [up_up]
  refine ⟨by decide, a, _, rfl, up_same, by show 2 < 1000; decide, ?_⟩
  rw [up_up]
  exact fin_of (q c)
section
variable {z : Ad} {m : Mt} {h : AH} {a : Addr}
theorem MtAt.ins (H : MtAt z m h a) : insOf h (.ref a) = some (z.Meter, mtF m) := by
  unfold MtAt at H
  simp [insOf, H]
theorem MtAt.is (H : MtAt z m h a) : isI z.Meter (.ref a) h := ⟨_, H.ins⟩
end
theorem p_Meter_readings (z : Ad) : ∀ ds h Q X, S_Meter_readings z ds h Q X → w_Meter_readings z (endsD Q X) (startD 1 ds) h := by
  rintro ds h Q X ⟨a, m, rfl, H, q⟩
  show w_Meter_readings z (endsD Q X) [some (.ref a)] h
  unfold w_Meter_readings
  simp only [u_fld, u_asg, u_gN, u_ret, u_retN, u_skip, u_expr, u_ifs, u_c, u_op, u_neg, u_test, u_and, u_or, u_not, u_if, u_nil, u_cons, u_tup, u_lst, u_callP, u_call, u_b, u_chain, u_andV, u_addI, u_subI, u_mulI, u_divI, u_modI, u_powI, u_cmpI, u_eqI, u_eqS, u_eqB, u_abs, u_intI, u_intB, u_newT, u_newF, u_isN, u_notN, wVar, List.set_cons_zero, List.set_cons_succ, List.getElem?_cons_zero, List.getElem?_cons_succ, List.length_cons, List.length_nil, u_lc, u_for, u_r1, u_r2, u_r3, u_num, u_notV, u_yes, u_w0, u_w1, u_dput, u_get2, u_dget, u_prop, u_fld, u_setF, u_make, u_makeS, u_met, u_calO, u_orT, u_tupIt, u_dc, u_maxDd, u_dnew, u_tupi, ix_p0, ix_p1, wSl, woNone, woSome]
  exact ⟨_, _, H.ins, rfl, fin_of q⟩
theorem p_Meter_most (z : Ad) : ∀ ds h Q X, S_Meter_most z ds h Q X → w_Meter_most z (endsD Q X) (startD 1 ds) h := by
  rintro ds h Q X ⟨a, m, rfl, H, q⟩
  show w_Meter_most z (endsD Q X) [some (.ref a)] h
  unfold w_Meter_most
  simp only [u_fld, u_asg, u_gN, u_ret, u_retN, u_skip, u_expr, u_ifs, u_c, u_op, u_neg, u_test, u_and, u_or, u_not, u_if, u_nil, u_cons, u_tup, u_lst, u_callP, u_call, u_b, u_chain, u_andV, u_addI, u_subI, u_mulI, u_divI, u_modI, u_powI, u_cmpI, u_eqI, u_eqS, u_eqB, u_abs, u_intI, u_intB, u_newT, u_newF, u_isN, u_notN, wVar, List.set_cons_zero, List.set_cons_succ, List.getElem?_cons_zero, List.getElem?_cons_succ, List.length_cons, List.length_nil, u_lc, u_for, u_r1, u_r2, u_r3, u_num, u_notV, u_yes, u_w0, u_w1, u_dput, u_get2, u_dget, u_prop, u_fld, u_setF, u_make, u_makeS, u_met, u_calO, u_orT, u_tupIt, u_dc, u_maxDd, u_dnew, u_tupi, ix_p0, ix_p1, wSl, woNone, woSome]
  exact ⟨_, _, H.ins, rfl, fin_of q⟩
theorem p_Meter_steps (z : Ad) : ∀ ds h Q X, S_Meter_steps z ds h Q X → w_Meter_steps z (endsD Q X) (startD 1 ds) h := by
  rintro ds h Q X ⟨a, m, rfl, H, q⟩
  show w_Meter_steps z (endsD Q X) [some (.ref a)] h
  unfold w_Meter_steps
  simp only [u_fld, u_asg, u_gN, u_ret, u_retN, u_skip, u_expr, u_ifs, u_c, u_op, u_neg, u_test, u_and, u_or, u_not, u_if, u_nil, u_cons, u_tup, u_lst, u_callP, u_call, u_b, u_chain, u_andV, u_addI, u_subI, u_mulI, u_divI, u_modI, u_powI, u_cmpI, u_eqI, u_eqS, u_eqB, u_abs, u_intI, u_intB, u_newT, u_newF, u_isN, u_notN, wVar, List.set_cons_zero, List.set_cons_succ, List.getElem?_cons_zero, List.getElem?_cons_succ, List.length_cons, List.length_nil, u_lc, u_for, u_r1, u_r2, u_r3, u_num, u_notV, u_yes, u_w0, u_w1, u_dput, u_get2, u_dget, u_prop, u_fld, u_setF, u_make, u_makeS, u_met, u_calO, u_orT, u_tupIt, u_dc, u_maxDd, u_dnew, u_tupi, ix_p0, ix_p1, wSl, woNone, woSome]
  refine ⟨_, _, H.ins, rfl, ?_⟩
  unfold earD
  rw [u_lenT, List.length_map]
  exact fin_of q
theorem p_Meter___len__ (z : Ad) : ∀ ds h Q X, S_Meter___len__ z ds h Q X → w_Meter___len__ z (endsD Q X) (startD 1 ds) h := by
  rintro ds h Q X ⟨a, m, rfl, H, q⟩
  show w_Meter___len__ z (endsD Q X) [some (.ref a)] h
  unfold w_Meter___len__
  simp only [u_fld, u_asg, u_gN, u_ret, u_retN, u_skip, u_expr, u_ifs, u_c, u_op, u_neg, u_test, u_and, u_or, u_not, u_if, u_nil, u_cons, u_tup, u_lst, u_callP, u_call, u_b, u_chain, u_andV, u_addI, u_subI, u_mulI, u_divI, u_modI, u_powI, u_cmpI, u_eqI, u_eqS, u_eqB, u_abs, u_intI, u_intB, u_newT, u_newF, u_isN, u_notN, wVar, List.set_cons_zero, List.set_cons_succ, List.getElem?_cons_zero, List.getElem?_cons_succ, List.length_cons, List.length_nil, u_lc, u_for, u_r1, u_r2, u_r3, u_num, u_notV, u_yes, u_w0, u_w1, u_dput, u_get2, u_dget, u_prop, u_fld, u_setF, u_make, u_makeS, u_met, u_calO, u_orT, u_tupIt, u_dc, u_maxDd, u_dnew, u_tupi, ix_p0, ix_p1, wSl, woNone, woSome]
  refine ⟨_, _, H.ins, rfl, ?_⟩
  unfold rdsD
  rw [u_lenT, List.length_map]
  exact fin_of q
theorem addT_go {xs ys : List D} {h : AH} {Q : KD} (l : xs.length + ys.length ≤ 16000) (q : Q (.tup (xs ++ ys)) h) : dAdd false (.tup xs) (.tup ys) h Q := ⟨Nat.le_trans l (by decide), q⟩
theorem p_Meter_settle (z : Ad) : ∀ ds h Q X, S_Meter_settle z ds h Q X → w_Meter_settle z (endsD Q X) (startD 3 ds) h := by
  rintro ds h Q X ⟨a, m, rs, e, rfl, H, l, q⟩
  show w_Meter_settle z (endsD Q X) [some (.ref a), some (rdsD rs), some (bnD e)] h
  unfold w_Meter_settle
  rw [u_seq]
  simp only [u_fld, u_asg, u_gN, u_ret, u_retN, u_skip, u_expr, u_ifs, u_c, u_op, u_neg, u_test, u_and, u_or, u_not, u_if, u_nil, u_cons, u_tup, u_lst, u_callP, u_call, u_b, u_chain, u_andV, u_addI, u_subI, u_mulI, u_divI, u_modI, u_powI, u_cmpI, u_eqI, u_eqS, u_eqB, u_abs, u_intI, u_intB, u_newT, u_newF, u_isN, u_notN, wVar, List.set_cons_zero, List.set_cons_succ, List.getElem?_cons_zero, List.getElem?_cons_succ, List.length_cons, List.length_nil, u_lc, u_for, u_r1, u_r2, u_r3, u_num, u_notV, u_yes, u_w0, u_w1, u_dput, u_get2, u_dget, u_prop, u_fld, u_setF, u_make, u_makeS, u_met, u_calO, u_orT, u_tupIt, u_dc, u_maxDd, u_dnew, u_tupi, ix_p0, ix_p1, wSl, woNone, woSome]
  refine ⟨_, _, H.ins, rfl, _, _, H.ins, rfl, _, _, H.ins, rfl, by decide, by decide, ?_⟩
  refine addT_go (by rw [List.length_map]; show _ + 1 ≤ 16000; omega) ⟨a, _, rfl, H, by show 3 < 1000; decide, ?_⟩
  rw [show (m.ear.map fun e => D.tup [rdsD e.1, bnD e.2]) ++ [D.tup [rdsD m.noted, bnD m.edge]] = ((m.ear ++ [(m.noted, m.edge)]).map fun e => D.tup [rdsD e.1, bnD e.2]) by rw [List.map_append]; rfl]
  ((try dsimp only); rw [u_seq]; (try simp only [u_asg, u_gN, u_ret, u_retN, u_skip, u_expr, u_ifs, u_c, u_op, u_neg, u_test, u_and, u_or, u_not, u_if, u_nil, u_cons, u_tup, u_lst, u_callP, u_call, u_b, u_chain, u_andV, u_addI, u_subI, u_mulI, u_divI, u_modI, u_powI, u_cmpI, u_eqI, u_eqS, u_eqB, u_abs, u_intI, u_intB, u_newT, u_newF, u_isN, u_notN, wVar, List.set_cons_zero, List.set_cons_succ, List.getElem?_cons_zero, List.getElem?_cons_succ, List.length_cons, List.length_nil, u_lc, u_for, u_r1, u_r2, u_r3, u_num, u_notV, u_yes, u_w0, u_w1, u_dput, u_get2, u_dget, u_prop, u_fld, u_setF, u_make, u_makeS, u_met, u_calO, u_orT, u_tupIt, u_dc, u_maxDd, u_dnew, u_tupi, ix_p0, ix_p1, wSl, woNone, woSome]))
  refine ⟨a, _, rfl, up_same, by show 3 < 1000; decide, ?_⟩
  rw [up_up]
  refine ⟨a, _, rfl, up_same, by show 3 < 1000; decide, ?_⟩
  rw [up_up]
  exact fin_of q
theorem lt_sz {n : Nat} (h : n < 100000) : n < sizeLine := Nat.lt_of_lt_of_le h (by decide : 100000 ≤ sizeLine)
theorem go_n2 {x y : D} {i j : Nat} {ρ : EnvD} {h : AH} {Q : EnvD → AH → Prop} {X : KX} (q : Q ((ρ.set i (some x)).set j (some y)) h) : gT 2 (gsN [i, j]) (.tup [x, y]) ρ h Q X := ⟨_, rfl, rfl, _, _, rfl, _, _, rfl, rfl, q⟩
theorem ty_sub {h g : AH} {x : D} {t : String} (s : Sub h g) (e : tyD h x = some t) : tyD g x = some t := by
  cases x with
  | ref a =>
    have key : ∀ (k : AH) (o : AO), k a = some o → tyD k (.ref a) = tyD (fun _ => some o) (.ref a) := fun k o e => by
      unfold tyD cur
      dsimp only
      rw [e]
    cases q : h a with
    | none =>
      have : tyD h (.ref a) = none := by
        unfold tyD cur
        dsimp only
        rw [q]
      rw [this] at e; cases e
    | some o =>
      rw [key g o (s _ _ q), ← key h o q]; exact e
  | _ => exact e
/-- whether a value is an int, as the package sees it -/
theorem ty_int {h : AH} {x : D} {t : String} (e : tyD h x = some t) : (decide (t = "int") = true ∧ ∃ i, x = .int i) ∨ (decide (t = "int") = false ∧ ∀ i, x ≠ .int i) := by
  by_cases c : t = "int"
  · subst c
    obtain ⟨i, rfl⟩ := ty_isint e
    exact .inl ⟨by decide, i, rfl⟩
  · refine .inr ⟨decide_eq_false c, ?_⟩
    rintro i rfl
    have : some "int" = some t := e
    cases this
    exact c rfl
theorem hasC_no {rs : List Rg} {x : D} (h : ∀ i, x ≠ .int i) : hasC rs x = false := by
  cases x <;> first | rfl | exact absurd rfl (h _)
theorem lenC_no {rs : List Rg} {x : D} (h : ∀ i, x ≠ .int i) : lenC rs x = [] := by
  cases x <;> first | rfl | exact absurd rfl (h _)
theorem p_Meter___contains__ (z : Ad) : ∀ ds h Q X, S_Meter___contains__ z ds h Q X → w_Meter___contains__ z (endsD Q X) (startD 4 ds) h := by
  rintro ds h Q X ⟨a, m, x, t, rfl, H, ok, ht, q⟩
  show w_Meter___contains__ z (endsD Q X) [some (.ref a), some x, none, none] h
  unfold w_Meter___contains__
  simp only [wAndV, u_fld, u_asg, u_gN, u_ret, u_retN, u_skip, u_expr, u_ifs, u_c, u_op, u_neg, u_test, u_and, u_or, u_not, u_if, u_nil, u_cons, u_tup, u_lst, u_callP, u_call, u_b, u_chain, u_andV, u_addI, u_subI, u_mulI, u_divI, u_modI, u_powI, u_cmpI, u_eqI, u_eqS, u_eqB, u_abs, u_intI, u_intB, u_newT, u_newF, u_isN, u_notN, wVar, List.set_cons_zero, List.set_cons_succ, List.getElem?_cons_zero, List.getElem?_cons_succ, List.length_cons, List.length_nil, u_lc, u_for, u_r1, u_r2, u_r3, u_num, u_notV, u_yes, u_w0, u_w1, u_dput, u_get2, u_dget, u_prop, u_fld, u_setF, u_make, u_makeS, u_met, u_calO, u_orT, u_tupIt, u_dc, u_maxDd, u_dnew, u_tupi, ix_p0, ix_p1, wSl, woNone, woSome]
  refine ⟨trivial, x, t, rfl, ht, ?_⟩
  rcases ty_int ht with ⟨e, i, rfl⟩ | ⟨e, no⟩
  · rw [e]
    dsimp only
    rw [if_pos rfl]
    refine ⟨_, _, H.ins, rfl, fun p hp => ?_⟩
    refine comp_map pairD (fun r => D.bl (decide (r.1 = i))) m.noted (fun _ => trivial) (Nat.le_trans ok.nd (by decide)) ?_ ?_
    · intro r acc K hr la k
      refine go_n2 ?_
      simp only [u_asg, u_gN, u_ret, u_retN, u_skip, u_expr, u_ifs, u_c, u_op, u_neg, u_test, u_and, u_or, u_not, u_if, u_nil, u_cons, u_tup, u_lst, u_callP, u_call, u_b, u_chain, u_andV, u_addI, u_subI, u_mulI, u_divI, u_modI, u_powI, u_cmpI, u_eqI, u_eqS, u_eqB, u_abs, u_intI, u_intB, u_newT, u_newF, u_isN, u_notN, wVar, List.set_cons_zero, List.set_cons_succ, List.getElem?_cons_zero, List.getElem?_cons_succ, List.length_cons, List.length_nil, u_lc, u_for, u_r1, u_r2, u_r3, u_num, u_notV, u_yes, u_w0, u_w1, u_dput, u_get2, u_dget, u_prop, u_fld, u_setF, u_make, u_makeS, u_met, u_calO, u_orT, u_tupIt, u_dc, u_maxDd, u_dnew, u_tupi, ix_p0, ix_p1, wSl, woNone, woSome]
      simp only [if_true]
      exact ⟨acc, up_same, la, by rw [up_up]; exact k⟩
    · refine endF hp ⟨_, m.noted.map fun r => decide (r.1 = i), rfl, ?_, ?_⟩
      · rw [List.map_map]; rfl
      · rw [List.any_map]
        exact fin_of q
  · rw [e]
    dsimp only
    rw [if_neg (by decide)]
    rw [hasC_no no] at q
    exact fin_of q
theorem p_Meter___getitem__ (z : Ad) : ∀ ds h Q X, S_Meter___getitem__ z ds h Q X → w_Meter___getitem__ z (endsD Q X) (startD 5 ds) h := by
  rintro ds h Q X ⟨a, m, x, t, rfl, H, ok, ht, q1, q2⟩
  show w_Meter___getitem__ z (endsD Q X) [some (.ref a), some x, none, none, none] h
  unfold w_Meter___getitem__
  refine seq_go (fun ρ h' => ρ = [some (.ref a), some x, some (.lst ((lenC m.noted x).map fun r => D.int r.2)), none, none] ∧ h = h') (fun K k => ?_) ?_
  · simp only [u_fld, u_asg, u_gN, u_ret, u_retN, u_skip, u_expr, u_ifs, u_c, u_op, u_neg, u_test, u_and, u_or, u_not, u_if, u_nil, u_cons, u_tup, u_lst, u_callP, u_call, u_b, u_chain, u_andV, u_addI, u_subI, u_mulI, u_divI, u_modI, u_powI, u_cmpI, u_eqI, u_eqS, u_eqB, u_abs, u_intI, u_intB, u_newT, u_newF, u_isN, u_notN, wVar, List.set_cons_zero, List.set_cons_succ, List.getElem?_cons_zero, List.getElem?_cons_succ, List.length_cons, List.length_nil, u_lc, u_for, u_r1, u_r2, u_r3, u_num, u_notV, u_yes, u_w0, u_w1, u_dput, u_get2, u_dget, u_prop, u_fld, u_setF, u_make, u_makeS, u_met, u_calO, u_orT, u_tupIt, u_dc, u_maxDd, u_dnew, u_tupi, ix_p0, ix_p1, wSl, woNone, woSome]
    refine ⟨_, _, H.ins, rfl, fun p hp => ?_⟩
    refine comp_go (fun i h' => h' = up h p (.lst ((lenC (m.noted.take i) x).map fun r => D.int r.2))) (by rw [List.take_zero]; cases x <;> rfl) (fun _ _ _ => trivial) ?_ ?_
    · rintro i y _ K2 hi rfl k2
      rw [List.getElem?_map] at hi
      obtain ⟨r, hr, rfl⟩ := Option.map_eq_some_iff.mp hi
      have tk : m.noted.take (i + 1) = m.noted.take i ++ [r] := by rw [List.take_succ, hr]; rfl
      have la : (lenC (m.noted.take i) x).length ≤ 1000 := by
        have : (lenC (m.noted.take i) x).length ≤ (m.noted.take i).length := by
          cases x <;> first | exact List.length_filter_le _ _ | exact Nat.zero_le _
        have := ok.nd
        rw [List.length_take] at *
        omega
      refine go_n2 ?_
      simp only [u_asg, u_gN, u_ret, u_retN, u_skip, u_expr, u_ifs, u_c, u_op, u_neg, u_test, u_and, u_or, u_not, u_if, u_nil, u_cons, u_tup, u_lst, u_callP, u_call, u_b, u_chain, u_andV, u_addI, u_subI, u_mulI, u_divI, u_modI, u_powI, u_cmpI, u_eqI, u_eqS, u_eqB, u_abs, u_intI, u_intB, u_newT, u_newF, u_isN, u_notN, wVar, List.set_cons_zero, List.set_cons_succ, List.getElem?_cons_zero, List.getElem?_cons_succ, List.length_cons, List.length_nil, u_lc, u_for, u_r1, u_r2, u_r3, u_num, u_notV, u_yes, u_w0, u_w1, u_dput, u_get2, u_dget, u_prop, u_fld, u_setF, u_make, u_makeS, u_met, u_calO, u_orT, u_tupIt, u_dc, u_maxDd, u_dnew, u_tupi, ix_p0, ix_p1, wSl, woNone, woSome]
      refine ⟨trivial, x, t, rfl, ty_sub (sub_up hp) ht, ?_⟩
      rcases ty_int ht with ⟨e, j, rfl⟩ | ⟨e, no⟩
      · rw [e]
        dsimp only
        rw [if_pos rfl, u_eqI]
        dsimp only
        by_cases c : r.1 = j
        · rw [decide_eq_true c]
          simp only [if_true]
          refine ⟨_, up_same, lt_sz (by rw [List.length_map]; omega), ?_⟩
          rw [up_up]
          refine k2 _ ?_
          rw [tk]
          unfold lenC
          dsimp only
          rw [List.filter_append, List.filter_cons, if_pos (decide_eq_true c), List.filter_nil, List.map_append]; rfl
        · rw [decide_eq_false c]
          simp only [Bool.false_eq_true, if_false]
          refine k2 _ ?_
          rw [tk]
          unfold lenC
          dsimp only
          rw [List.filter_append, List.filter_cons, if_neg (by rw [decide_eq_false c]; decide), List.filter_nil, List.append_nil]
      · rw [e]
        dsimp only
        rw [if_neg (by decide)]
        simp only [Bool.false_eq_true, if_false]
        refine k2 _ ?_
        rw [lenC_no no, lenC_no no]
    · rintro _ rfl
      rw [List.length_map, List.take_length]
      exact endF hp (k _ _ ⟨rfl, rfl⟩)
  rintro _ _ ⟨rfl, rfl⟩
  ((try dsimp only); rw [u_seq]; (try simp only [u_asg, u_gN, u_ret, u_retN, u_skip, u_expr, u_ifs, u_c, u_op, u_neg, u_test, u_and, u_or, u_not, u_if, u_nil, u_cons, u_tup, u_lst, u_callP, u_call, u_b, u_chain, u_andV, u_addI, u_subI, u_mulI, u_divI, u_modI, u_powI, u_cmpI, u_eqI, u_eqS, u_eqB, u_abs, u_intI, u_intB, u_newT, u_newF, u_isN, u_notN, wVar, List.set_cons_zero, List.set_cons_succ, List.getElem?_cons_zero, List.getElem?_cons_succ, List.length_cons, List.length_nil, u_lc, u_for, u_r1, u_r2, u_r3, u_num, u_notV, u_yes, u_w0, u_w1, u_dput, u_get2, u_dget, u_prop, u_fld, u_setF, u_make, u_makeS, u_met, u_calO, u_orT, u_tupIt, u_dc, u_maxDd, u_dnew, u_tupi, ix_p0, ix_p1, wSl, woNone, woSome]))
  refine ⟨by decide, _, rfl, ?_⟩
  cases e : lenC m.noted x with
  | nil =>
    show (if true = true then _ else _)
    rw [if_pos rfl]
    simp only [u_raise, u_asg, u_gN, u_ret, u_retN, u_skip, u_expr, u_ifs, u_c, u_op, u_neg, u_test, u_and, u_or, u_not, u_if, u_nil, u_cons, u_tup, u_lst, u_callP, u_call, u_b, u_chain, u_andV, u_addI, u_subI, u_mulI, u_divI, u_modI, u_powI, u_cmpI, u_eqI, u_eqS, u_eqB, u_abs, u_intI, u_intB, u_newT, u_newF, u_isN, u_notN, wVar, List.set_cons_zero, List.set_cons_succ, List.getElem?_cons_zero, List.getElem?_cons_succ, List.length_cons, List.length_nil, u_lc, u_for, u_r1, u_r2, u_r3, u_num, u_notV, u_yes, u_w0, u_w1, u_dput, u_get2, u_dget, u_prop, u_fld, u_setF, u_make, u_makeS, u_met, u_calO, u_orT, u_tupIt, u_dc, u_maxDd, u_dnew, u_tupi, ix_p0, ix_p1, wSl, woNone, woSome]
    exact ⟨trivial, q1 e h (Sub.refl h)⟩
  | cons r l =>
    show (if false = true then _ else _)
    rw [if_neg (by decide)]
    rw [List.map_cons, u_ixLd at0]
    exact fin_of (q2 r l e)
theorem fst_take {rs : List Rg} {e : Option Int} {x : Rg} : ∀ {i : Nat}, (∀ j, j < i → ∀ r, rs[j]? = some r → agr e r x = true) → fstN rs e x = fstN (rs.drop i) e x := by
  intro i h
  unfold fstN
  conv => lhs; rw [← List.take_append_drop i rs]
  rw [List.find?_append]
  have : (rs.take i).find? (fun r => !agr e r x) = none := by
    rw [List.find?_eq_none]
    intro r hr
    obtain ⟨j, hj⟩ := List.mem_iff_getElem?.mp hr
    rw [List.getElem?_take] at hj
    split at hj
    · rename_i c
      rw [h j c r hj]; decide
    · cases hj
  rw [this]; rfl
theorem fst_at {rs : List Rg} {e : Option Int} {x r : Rg} {i : Nat} (h : ∀ j, j < i → ∀ r, rs[j]? = some r → agr e r x = true) (hr : rs[i]? = some r) (n : agr e r x = false) : fstN rs e x = some r := by
  obtain ⟨hi, er⟩ := List.getElem?_eq_some_iff.mp hr
  rw [fst_take h, List.drop_eq_getElem_cons hi, er]
  unfold fstN
  rw [List.find?_cons, n]; rfl
theorem p_Meter_take (z : Ad) : ∀ ds h Q X, S_Meter_take z ds h Q X → w_Meter_take z (endsD Q X) (startD 5 ds) h := by
  rintro ds h Q X ⟨a, m, c, l, rfl, H, ok, hc, q1, q2⟩
  show w_Meter_take z (endsD Q X) [some (.ref a), some (.int c), some (.int l), none, none] h
  unfold w_Meter_take
  ((try dsimp only); rw [u_seq]; (try simp only [u_asg, u_gN, u_ret, u_retN, u_skip, u_expr, u_ifs, u_c, u_op, u_neg, u_test, u_and, u_or, u_not, u_if, u_nil, u_cons, u_tup, u_lst, u_callP, u_call, u_b, u_chain, u_andV, u_addI, u_subI, u_mulI, u_divI, u_modI, u_powI, u_cmpI, u_eqI, u_eqS, u_eqB, u_abs, u_intI, u_intB, u_newT, u_newF, u_isN, u_notN, wVar, List.set_cons_zero, List.set_cons_succ, List.getElem?_cons_zero, List.getElem?_cons_succ, List.length_cons, List.length_nil, u_lc, u_for, u_r1, u_r2, u_r3, u_num, u_notV, u_yes, u_w0, u_w1, u_dput, u_get2, u_dget, u_prop, u_fld, u_setF, u_make, u_makeS, u_met, u_calO, u_orT, u_tupIt, u_dc, u_maxDd, u_dnew, u_tupi, ix_p0, ix_p1, wSl, woNone, woSome]))
  refine ⟨by decide, ?_⟩
  refine seq_go (fun ρ h' => ∃ a4, ρ = [some (.ref a), some (.int c), some (.int l), some (pairD (c, l)), a4] ∧ h = h' ∧ fstN m.noted m.edge (c, l) = none) (fun K k => ?_) ?_
  · simp only [u_fld, u_asg, u_gN, u_ret, u_retN, u_skip, u_expr, u_ifs, u_c, u_op, u_neg, u_test, u_and, u_or, u_not, u_if, u_nil, u_cons, u_tup, u_lst, u_callP, u_call, u_b, u_chain, u_andV, u_addI, u_subI, u_mulI, u_divI, u_modI, u_powI, u_cmpI, u_eqI, u_eqS, u_eqB, u_abs, u_intI, u_intB, u_newT, u_newF, u_isN, u_notN, wVar, List.set_cons_zero, List.set_cons_succ, List.getElem?_cons_zero, List.getElem?_cons_succ, List.length_cons, List.length_nil, u_lc, u_for, u_r1, u_r2, u_r3, u_num, u_notV, u_yes, u_w0, u_w1, u_dput, u_get2, u_dget, u_prop, u_fld, u_setF, u_make, u_makeS, u_met, u_calO, u_orT, u_tupIt, u_dc, u_maxDd, u_dnew, u_tupi, ix_p0, ix_p1, wSl, woNone, woSome]
    refine ⟨_, _, H.ins, rfl, ?_⟩
    refine loop_go (fun i ρ h' => ∃ a4, ρ = [some (.ref a), some (.int c), some (.int l), some (pairD (c, l)), a4] ∧ h = h' ∧ ∀ j, j < i → ∀ r, m.noted[j]? = some r → agr m.edge r (c, l) = true) ⟨_, rfl, rfl, fun j hj => by omega⟩ (fun _ _ _ _ => trivial) ?_ ?_
    · rintro i y _ _ K2 hi ⟨a4, rfl, rfl, hj⟩ k2
      rw [List.getElem?_map] at hi
      obtain ⟨r, hr, rfl⟩ := Option.map_eq_some_iff.mp hi
      rw [u_gN]
      dsimp only [List.set_cons_zero, List.set_cons_succ]
      simp only [u_fld, u_asg, u_gN, u_ret, u_retN, u_skip, u_expr, u_ifs, u_c, u_op, u_neg, u_test, u_and, u_or, u_not, u_if, u_nil, u_cons, u_tup, u_lst, u_callP, u_call, u_b, u_chain, u_andV, u_addI, u_subI, u_mulI, u_divI, u_modI, u_powI, u_cmpI, u_eqI, u_eqS, u_eqB, u_abs, u_intI, u_intB, u_newT, u_newF, u_isN, u_notN, wVar, List.set_cons_zero, List.set_cons_succ, List.getElem?_cons_zero, List.getElem?_cons_succ, List.length_cons, List.length_nil, u_lc, u_for, u_r1, u_r2, u_r3, u_num, u_notV, u_yes, u_w0, u_w1, u_dput, u_get2, u_dget, u_prop, u_fld, u_setF, u_make, u_makeS, u_met, u_calO, u_orT, u_tupIt, u_dc, u_maxDd, u_dnew, u_tupi, ix_p0, ix_p1, wSl, woNone, woSome]
      refine ⟨_, _, H.ins, rfl, trivial, r, (c, l), m.edge, rfl, ok.ps r (List.mem_of_getElem? hr), hc, ?_⟩
      dsimp only
      cases e : agr m.edge r (c, l) with
      | true =>
        simp only [Bool.not_true, Bool.false_eq_true, if_false]
        refine k2 _ _ ⟨_, rfl, rfl, fun j hj2 r2 h2 => ?_⟩
        by_cases c2 : j = i
        · subst c2; rw [hr] at h2; cases h2; exact e
        · exact hj j (by omega) r2 h2
      | false =>
        simp only [Bool.not_false, if_true, u_raise, u_asg, u_gN, u_ret, u_retN, u_skip, u_expr, u_ifs, u_c, u_op, u_neg, u_test, u_and, u_or, u_not, u_if, u_nil, u_cons, u_tup, u_lst, u_callP, u_call, u_b, u_chain, u_andV, u_addI, u_subI, u_mulI, u_divI, u_modI, u_powI, u_cmpI, u_eqI, u_eqS, u_eqB, u_abs, u_intI, u_intB, u_newT, u_newF, u_isN, u_notN, wVar, List.set_cons_zero, List.set_cons_succ, List.getElem?_cons_zero, List.getElem?_cons_succ, List.length_cons, List.length_nil, u_lc, u_for, u_r1, u_r2, u_r3, u_num, u_notV, u_yes, u_w0, u_w1, u_dput, u_get2, u_dget, u_prop, u_fld, u_setF, u_make, u_makeS, u_met, u_calO, u_orT, u_tupIt, u_dc, u_maxDd, u_dnew, u_tupi, ix_p0, ix_p1, wSl, woNone, woSome]
        exact ⟨trivial, q1 r (fst_at hj hr e) h (Sub.refl h)⟩
    · rintro _ _ ⟨a4, rfl, rfl, hj⟩
      rw [List.length_map] at hj
      refine k _ _ ⟨_, rfl, rfl, ?_⟩
      rw [fst_take hj, List.drop_length]; rfl
  rintro _ _ ⟨a4, rfl, rfl, hn⟩
  have q := q2 hn
  simp only [u_fld, u_asg, u_gN, u_ret, u_retN, u_skip, u_expr, u_ifs, u_c, u_op, u_neg, u_test, u_and, u_or, u_not, u_if, u_nil, u_cons, u_tup, u_lst, u_callP, u_call, u_b, u_chain, u_andV, u_addI, u_subI, u_mulI, u_divI, u_modI, u_powI, u_cmpI, u_eqI, u_eqS, u_eqB, u_abs, u_intI, u_intB, u_newT, u_newF, u_isN, u_notN, wVar, List.set_cons_zero, List.set_cons_succ, List.getElem?_cons_zero, List.getElem?_cons_succ, List.length_cons, List.length_nil, u_lc, u_for, u_r1, u_r2, u_r3, u_num, u_notV, u_yes, u_w0, u_w1, u_dput, u_get2, u_dget, u_prop, u_fld, u_setF, u_make, u_makeS, u_met, u_calO, u_orT, u_tupIt, u_dc, u_maxDd, u_dnew, u_tupi, ix_p0, ix_p1, wSl, woNone, woSome]
  refine ⟨_, H.ins, rfl, ?_⟩
  rw [u_inX]
  simp only [u_asg, u_gN, u_ret, u_retN, u_skip, u_expr, u_ifs, u_c, u_op, u_neg, u_test, u_and, u_or, u_not, u_if, u_nil, u_cons, u_tup, u_lst, u_callP, u_call, u_b, u_chain, u_andV, u_addI, u_subI, u_mulI, u_divI, u_modI, u_powI, u_cmpI, u_eqI, u_eqS, u_eqB, u_abs, u_intI, u_intB, u_newT, u_newF, u_isN, u_notN, wVar, List.set_cons_zero, List.set_cons_succ, List.getElem?_cons_zero, List.getElem?_cons_succ, List.length_cons, List.length_nil, u_lc, u_for, u_r1, u_r2, u_r3, u_num, u_notV, u_yes, u_w0, u_w1, u_dput, u_get2, u_dget, u_prop, u_fld, u_setF, u_make, u_makeS, u_met, u_calO, u_orT, u_tupIt, u_dc, u_maxDd, u_dnew, u_tupi, ix_p0, ix_p1, wSl, woNone, woSome]
  refine ⟨H.is, a, m, .int c, "int", rfl, H, ok, rfl, _, rfl, ?_⟩
  simp only [Bool.false_eq_true, if_false]
  unfold tk at q
  have l2 := ok.er
  have l3 := ok.nd
  cases e : hasC m.noted (.int c) with
  | true =>
    rw [e] at q
    rw [if_pos rfl] at q
    rw [if_pos rfl]
    exact ⟨_, _, H.ins, rfl, _, _, H.ins, rfl, a, m, m.noted, m.edge, rfl, H, l2, fin_of q⟩
  | false =>
    rw [e] at q
    rw [if_neg (by decide)] at q
    rw [if_neg (by decide)]
    refine ⟨_, _, H.ins, rfl, by decide, ?_⟩
    unfold rdsD
    refine addT_go (by rw [List.length_map]; show _ + 1 ≤ 16000; omega) ⟨_, _, H.ins, rfl, a, m, m.noted ++ [(c, l)], m.edge, ?_, H, l2, fin_of q⟩
    unfold rdsD
    rw [List.map_append]; rfl
theorem p_Meter_add (z : Ad) : ∀ ds h Q X, S_Meter_add z ds h Q X → w_Meter_add z (endsD Q X) (startD 3 ds) h := by
  rintro ds h Q X ⟨a, m, x, y, t, u, rfl, H, ok, ht, hu, q1, q2, q3⟩
  show w_Meter_add z (endsD Q X) [some (.ref a), some x, some y] h
  unfold w_Meter_add
  ((try dsimp only); rw [u_seq]; (try simp only [u_asg, u_gN, u_ret, u_retN, u_skip, u_expr, u_ifs, u_c, u_op, u_neg, u_test, u_and, u_or, u_not, u_if, u_nil, u_cons, u_tup, u_lst, u_callP, u_call, u_b, u_chain, u_andV, u_addI, u_subI, u_mulI, u_divI, u_modI, u_powI, u_cmpI, u_eqI, u_eqS, u_eqB, u_abs, u_intI, u_intB, u_newT, u_newF, u_isN, u_notN, wVar, List.set_cons_zero, List.set_cons_succ, List.getElem?_cons_zero, List.getElem?_cons_succ, List.length_cons, List.length_nil, u_lc, u_for, u_r1, u_r2, u_r3, u_num, u_notV, u_yes, u_w0, u_w1, u_dput, u_get2, u_dget, u_prop, u_fld, u_setF, u_make, u_makeS, u_met, u_calO, u_orT, u_tupIt, u_dc, u_maxDd, u_dnew, u_tupi, ix_p0, ix_p1, wSl, woNone, woSome]))
  refine ⟨trivial, x, t, rfl, ht, fun c => ?_, fun c h' s => q1 c h' s⟩
  ((try dsimp only); rw [u_seq]; (try simp only [u_asg, u_gN, u_ret, u_retN, u_skip, u_expr, u_ifs, u_c, u_op, u_neg, u_test, u_and, u_or, u_not, u_if, u_nil, u_cons, u_tup, u_lst, u_callP, u_call, u_b, u_chain, u_andV, u_addI, u_subI, u_mulI, u_divI, u_modI, u_powI, u_cmpI, u_eqI, u_eqS, u_eqB, u_abs, u_intI, u_intB, u_newT, u_newF, u_isN, u_notN, wVar, List.set_cons_zero, List.set_cons_succ, List.getElem?_cons_zero, List.getElem?_cons_succ, List.length_cons, List.length_nil, u_lc, u_for, u_r1, u_r2, u_r3, u_num, u_notV, u_yes, u_w0, u_w1, u_dput, u_get2, u_dget, u_prop, u_fld, u_setF, u_make, u_makeS, u_met, u_calO, u_orT, u_tupIt, u_dc, u_maxDd, u_dnew, u_tupi, ix_p0, ix_p1, wSl, woNone, woSome]))
  refine ⟨trivial, y, u, 0, _, rfl, hu, ?_⟩
  dsimp only
  cases c2 : btw y 0 (10 ^ 30) with
  | false =>
    rw [show btw y 0 1000000000000000000000000000000 = false from c2]
    simp only [Bool.not_false, if_true, u_raise, u_asg, u_gN, u_ret, u_retN, u_skip, u_expr, u_ifs, u_c, u_op, u_neg, u_test, u_and, u_or, u_not, u_if, u_nil, u_cons, u_tup, u_lst, u_callP, u_call, u_b, u_chain, u_andV, u_addI, u_subI, u_mulI, u_divI, u_modI, u_powI, u_cmpI, u_eqI, u_eqS, u_eqB, u_abs, u_intI, u_intB, u_newT, u_newF, u_isN, u_notN, wVar, List.set_cons_zero, List.set_cons_succ, List.getElem?_cons_zero, List.getElem?_cons_succ, List.length_cons, List.length_nil, u_lc, u_for, u_r1, u_r2, u_r3, u_num, u_notV, u_yes, u_w0, u_w1, u_dput, u_get2, u_dget, u_prop, u_fld, u_setF, u_make, u_makeS, u_met, u_calO, u_orT, u_tupIt, u_dc, u_maxDd, u_dnew, u_tupi, ix_p0, ix_p1, wSl, woNone, woSome]
    exact ⟨trivial, q2 c c2 h (Sub.refl h)⟩
  | true =>
    rw [show btw y 0 1000000000000000000000000000000 = true from c2]
    simp only [Bool.not_true, Bool.false_eq_true, if_false]
    obtain ⟨cx, rfl, i1, i2⟩ : ∃ i, x = .int i ∧ 1 ≤ i ∧ i ≤ 10000 := by
      cases x <;> first | (refine ⟨_, rfl, ?_⟩; simpa [btw] using c) | (cases c)
    obtain ⟨ly, rfl, i3, i4⟩ : ∃ i, y = .int i ∧ 0 ≤ i ∧ i ≤ 10 ^ 30 := by
      cases y <;> first | (refine ⟨_, rfl, ?_⟩; simpa [btw] using c2) | (cases c2)
    obtain ⟨r1, r2⟩ := q3 cx ly rfl rfl i1 i2 i3 i4
    refine ⟨_, H.ins, rfl, a, m, cx, ly, rfl, H, ok, by omega, r1, fun e => fin_of (r2 e)⟩
end FM
namespace FM
open PySem PySem.Spec L2 C8 DL
theorem szl {n : Nat} (h : n ≤ 16000) : n ≤ sizeLine := Nat.le_trans h (by decide)
theorem isX_go {M : XTab} {C : Addr} {fs : List (Str × D)} {c : D} {b : Bool} {h : AH} {Q : KD} (hm : (C, c, b) ∈ M) (q : Q (.bl b) h) : dIsX M [.xob C fs, c] h Q := ⟨C, fs, c, b, rfl, hm, q⟩
theorem isN_xob {C : Addr} {fs : List (Str × D)} {h : AH} {Q : KD} : dIsN (fun b => b) (.xob C fs) .non h Q = Q (.bl false) h := rfl
theorem any3 {M : XTab} {C : Addr} {a b c : D} (h1 : (C, a, false) ∈ M) (h2 : (C, b, false) ∈ M) (h3 : (C, c, false) ∈ M) : IsAny M C [a, b, c] false := .cons h1 (.cons h2 (.cons h3 .nil))
theorem any6 {M : XTab} {C : Addr} {a b c d e f : D} (h1 : (C, a, false) ∈ M) (h2 : (C, b, false) ∈ M) (h3 : (C, c, false) ∈ M) (h4 : (C, d, false) ∈ M) (h5 : (C, e, false) ∈ M) (h6 : (C, f, false) ∈ M) : IsAny M C [a, b, c, d, e, f] false := .cons h1 (.cons h2 (.cons h3 (.cons h4 (.cons h5 (.cons h6 .nil)))))
theorem p__law_fields (z : Ad) : ∀ ds h Q X, S__law_fields z ds h Q X → w__law_fields z (endsD Q X) (startD 2 ds) h := by
  rintro ds h Q X ⟨C, fs, n, d, rfl, hx, q⟩
  show w__law_fields z (endsD Q X) [some (.xob C fs), some (.int (n : Nat))] h
  unfold w__law_fields
  cases hx with
  | cap v =>
    ((try dsimp only); rw [u_seq]; (try simp only [u_asg, u_gN, u_ret, u_retN, u_skip, u_expr, u_ifs, u_c, u_op, u_neg, u_test, u_and, u_or, u_not, u_if, u_nil, u_cons, u_tup, u_lst, u_callP, u_call, u_b, u_chain, u_andV, u_addI, u_subI, u_mulI, u_divI, u_modI, u_powI, u_cmpI, u_eqI, u_eqS, u_eqB, u_abs, u_intI, u_intB, u_newT, u_newF, u_isN, u_notN, wVar, List.set_cons_zero, List.set_cons_succ, List.getElem?_cons_zero, List.getElem?_cons_succ, List.length_cons, List.length_nil, u_lc, u_for, u_r1, u_r2, u_r3, u_num, u_notV, u_yes, u_w0, u_w1, u_dput, u_get2, u_dget, u_prop, u_fld, u_setF, u_make, u_makeS, u_met, u_calO, u_orT, u_tupIt, u_dc, u_maxDd, u_dnew, u_tupi, ix_p0, ix_p1, wSl, woNone, woSome]))
    rw [if_pos (by decide)]
    try simp only [u_asg, u_gN, u_ret, u_retN, u_skip, u_expr, u_ifs, u_c, u_op, u_neg, u_test, u_and, u_or, u_not, u_if, u_nil, u_cons, u_tup, u_lst, u_callP, u_call, u_b, u_chain, u_andV, u_addI, u_subI, u_mulI, u_divI, u_modI, u_powI, u_cmpI, u_eqI, u_eqS, u_eqB, u_abs, u_intI, u_intB, u_newT, u_newF, u_isN, u_notN, wVar, List.set_cons_zero, List.set_cons_succ, List.getElem?_cons_zero, List.getElem?_cons_succ, List.length_cons, List.length_nil, u_lc, u_for, u_r1, u_r2, u_r3, u_num, u_notV, u_yes, u_w0, u_w1, u_dput, u_get2, u_dget, u_prop, u_fld, u_setF, u_make, u_makeS, u_met, u_calO, u_orT, u_tupIt, u_dc, u_maxDd, u_dnew, u_tupi, ix_p0, ix_p1, wSl, woNone, woSome]
    refine ⟨by decide, ?_⟩
    rw [u_ixLd (show atI _ _ = some (.str "capacity") from rfl)]
    exact ⟨_, _, _, rfl, by simp, rfl, by decide, fin_of q⟩
  | red v =>
    ((try dsimp only); rw [u_seq]; (try simp only [u_asg, u_gN, u_ret, u_retN, u_skip, u_expr, u_ifs, u_c, u_op, u_neg, u_test, u_and, u_or, u_not, u_if, u_nil, u_cons, u_tup, u_lst, u_callP, u_call, u_b, u_chain, u_andV, u_addI, u_subI, u_mulI, u_divI, u_modI, u_powI, u_cmpI, u_eqI, u_eqS, u_eqB, u_abs, u_intI, u_intB, u_newT, u_newF, u_isN, u_notN, wVar, List.set_cons_zero, List.set_cons_succ, List.getElem?_cons_zero, List.getElem?_cons_succ, List.length_cons, List.length_nil, u_lc, u_for, u_r1, u_r2, u_r3, u_num, u_notV, u_yes, u_w0, u_w1, u_dput, u_get2, u_dget, u_prop, u_fld, u_setF, u_make, u_makeS, u_met, u_calO, u_orT, u_tupIt, u_dc, u_maxDd, u_dnew, u_tupi, ix_p0, ix_p1, wSl, woNone, woSome]))
    rw [if_pos (by decide)]
    try simp only [u_asg, u_gN, u_ret, u_retN, u_skip, u_expr, u_ifs, u_c, u_op, u_neg, u_test, u_and, u_or, u_not, u_if, u_nil, u_cons, u_tup, u_lst, u_callP, u_call, u_b, u_chain, u_andV, u_addI, u_subI, u_mulI, u_divI, u_modI, u_powI, u_cmpI, u_eqI, u_eqS, u_eqB, u_abs, u_intI, u_intB, u_newT, u_newF, u_isN, u_notN, wVar, List.set_cons_zero, List.set_cons_succ, List.getElem?_cons_zero, List.getElem?_cons_succ, List.length_cons, List.length_nil, u_lc, u_for, u_r1, u_r2, u_r3, u_num, u_notV, u_yes, u_w0, u_w1, u_dput, u_get2, u_dget, u_prop, u_fld, u_setF, u_make, u_makeS, u_met, u_calO, u_orT, u_tupIt, u_dc, u_maxDd, u_dnew, u_tupi, ix_p0, ix_p1, wSl, woNone, woSome]
    refine ⟨by decide, ?_⟩
    rw [u_ixLd (show atI _ _ = some (.str "reading") from rfl)]
    exact ⟨_, _, _, rfl, by simp, rfl, by decide, fin_of q⟩
  | bnd v =>
    ((try dsimp only); rw [u_seq]; (try simp only [u_asg, u_gN, u_ret, u_retN, u_skip, u_expr, u_ifs, u_c, u_op, u_neg, u_test, u_and, u_or, u_not, u_if, u_nil, u_cons, u_tup, u_lst, u_callP, u_call, u_b, u_chain, u_andV, u_addI, u_subI, u_mulI, u_divI, u_modI, u_powI, u_cmpI, u_eqI, u_eqS, u_eqB, u_abs, u_intI, u_intB, u_newT, u_newF, u_isN, u_notN, wVar, List.set_cons_zero, List.set_cons_succ, List.getElem?_cons_zero, List.getElem?_cons_succ, List.length_cons, List.length_nil, u_lc, u_for, u_r1, u_r2, u_r3, u_num, u_notV, u_yes, u_w0, u_w1, u_dput, u_get2, u_dget, u_prop, u_fld, u_setF, u_make, u_makeS, u_met, u_calO, u_orT, u_tupIt, u_dc, u_maxDd, u_dnew, u_tupi, ix_p0, ix_p1, wSl, woNone, woSome]))
    rw [if_pos (by decide)]
    try simp only [u_asg, u_gN, u_ret, u_retN, u_skip, u_expr, u_ifs, u_c, u_op, u_neg, u_test, u_and, u_or, u_not, u_if, u_nil, u_cons, u_tup, u_lst, u_callP, u_call, u_b, u_chain, u_andV, u_addI, u_subI, u_mulI, u_divI, u_modI, u_powI, u_cmpI, u_eqI, u_eqS, u_eqB, u_abs, u_intI, u_intB, u_newT, u_newF, u_isN, u_notN, wVar, List.set_cons_zero, List.set_cons_succ, List.getElem?_cons_zero, List.getElem?_cons_succ, List.length_cons, List.length_nil, u_lc, u_for, u_r1, u_r2, u_r3, u_num, u_notV, u_yes, u_w0, u_w1, u_dput, u_get2, u_dget, u_prop, u_fld, u_setF, u_make, u_makeS, u_met, u_calO, u_orT, u_tupIt, u_dc, u_maxDd, u_dnew, u_tupi, ix_p0, ix_p1, wSl, woNone, woSome]
    refine ⟨by decide, ?_⟩
    rw [u_ixLd (show atI _ _ = some (.str "bound") from rfl)]
    exact ⟨_, _, _, rfl, by simp, rfl, by decide, fin_of q⟩
  | con v u =>
    ((try dsimp only); rw [u_seq]; (try simp only [u_asg, u_gN, u_ret, u_retN, u_skip, u_expr, u_ifs, u_c, u_op, u_neg, u_test, u_and, u_or, u_not, u_if, u_nil, u_cons, u_tup, u_lst, u_callP, u_call, u_b, u_chain, u_andV, u_addI, u_subI, u_mulI, u_divI, u_modI, u_powI, u_cmpI, u_eqI, u_eqS, u_eqB, u_abs, u_intI, u_intB, u_newT, u_newF, u_isN, u_notN, wVar, List.set_cons_zero, List.set_cons_succ, List.getElem?_cons_zero, List.getElem?_cons_succ, List.length_cons, List.length_nil, u_lc, u_for, u_r1, u_r2, u_r3, u_num, u_notV, u_yes, u_w0, u_w1, u_dput, u_get2, u_dget, u_prop, u_fld, u_setF, u_make, u_makeS, u_met, u_calO, u_orT, u_tupIt, u_dc, u_maxDd, u_dnew, u_tupi, ix_p0, ix_p1, wSl, woNone, woSome]))
    rw [if_neg (by decide)]
    ((try dsimp only); rw [u_seq]; (try simp only [u_asg, u_gN, u_ret, u_retN, u_skip, u_expr, u_ifs, u_c, u_op, u_neg, u_test, u_and, u_or, u_not, u_if, u_nil, u_cons, u_tup, u_lst, u_callP, u_call, u_b, u_chain, u_andV, u_addI, u_subI, u_mulI, u_divI, u_modI, u_powI, u_cmpI, u_eqI, u_eqS, u_eqB, u_abs, u_intI, u_intB, u_newT, u_newF, u_isN, u_notN, wVar, List.set_cons_zero, List.set_cons_succ, List.getElem?_cons_zero, List.getElem?_cons_succ, List.length_cons, List.length_nil, u_lc, u_for, u_r1, u_r2, u_r3, u_num, u_notV, u_yes, u_w0, u_w1, u_dput, u_get2, u_dget, u_prop, u_fld, u_setF, u_make, u_makeS, u_met, u_calO, u_orT, u_tupIt, u_dc, u_maxDd, u_dnew, u_tupi, ix_p0, ix_p1, wSl, woNone, woSome]))
    rw [if_pos (by decide)]
    try simp only [u_asg, u_gN, u_ret, u_retN, u_skip, u_expr, u_ifs, u_c, u_op, u_neg, u_test, u_and, u_or, u_not, u_if, u_nil, u_cons, u_tup, u_lst, u_callP, u_call, u_b, u_chain, u_andV, u_addI, u_subI, u_mulI, u_divI, u_modI, u_powI, u_cmpI, u_eqI, u_eqS, u_eqB, u_abs, u_intI, u_intB, u_newT, u_newF, u_isN, u_notN, wVar, List.set_cons_zero, List.set_cons_succ, List.getElem?_cons_zero, List.getElem?_cons_succ, List.length_cons, List.length_nil, u_lc, u_for, u_r1, u_r2, u_r3, u_num, u_notV, u_yes, u_w0, u_w1, u_dput, u_get2, u_dget, u_prop, u_fld, u_setF, u_make, u_makeS, u_met, u_calO, u_orT, u_tupIt, u_dc, u_maxDd, u_dnew, u_tupi, ix_p0, ix_p1, wSl, woNone, woSome]
    exact ⟨_, _, _, rfl, by simp, rfl, _, _, _, rfl, by simp, rfl, by decide, fin_of q⟩
  | nor v =>
    ((try dsimp only); rw [u_seq]; (try simp only [u_asg, u_gN, u_ret, u_retN, u_skip, u_expr, u_ifs, u_c, u_op, u_neg, u_test, u_and, u_or, u_not, u_if, u_nil, u_cons, u_tup, u_lst, u_callP, u_call, u_b, u_chain, u_andV, u_addI, u_subI, u_mulI, u_divI, u_modI, u_powI, u_cmpI, u_eqI, u_eqS, u_eqB, u_abs, u_intI, u_intB, u_newT, u_newF, u_isN, u_notN, wVar, List.set_cons_zero, List.set_cons_succ, List.getElem?_cons_zero, List.getElem?_cons_succ, List.length_cons, List.length_nil, u_lc, u_for, u_r1, u_r2, u_r3, u_num, u_notV, u_yes, u_w0, u_w1, u_dput, u_get2, u_dget, u_prop, u_fld, u_setF, u_make, u_makeS, u_met, u_calO, u_orT, u_tupIt, u_dc, u_maxDd, u_dnew, u_tupi, ix_p0, ix_p1, wSl, woNone, woSome]))
    rw [if_neg (by decide)]
    ((try dsimp only); rw [u_seq]; (try simp only [u_asg, u_gN, u_ret, u_retN, u_skip, u_expr, u_ifs, u_c, u_op, u_neg, u_test, u_and, u_or, u_not, u_if, u_nil, u_cons, u_tup, u_lst, u_callP, u_call, u_b, u_chain, u_andV, u_addI, u_subI, u_mulI, u_divI, u_modI, u_powI, u_cmpI, u_eqI, u_eqS, u_eqB, u_abs, u_intI, u_intB, u_newT, u_newF, u_isN, u_notN, wVar, List.set_cons_zero, List.set_cons_succ, List.getElem?_cons_zero, List.getElem?_cons_succ, List.length_cons, List.length_nil, u_lc, u_for, u_r1, u_r2, u_r3, u_num, u_notV, u_yes, u_w0, u_w1, u_dput, u_get2, u_dget, u_prop, u_fld, u_setF, u_make, u_makeS, u_met, u_calO, u_orT, u_tupIt, u_dc, u_maxDd, u_dnew, u_tupi, ix_p0, ix_p1, wSl, woNone, woSome]))
    rw [if_neg (by decide)]
    try simp only [u_asg, u_gN, u_ret, u_retN, u_skip, u_expr, u_ifs, u_c, u_op, u_neg, u_test, u_and, u_or, u_not, u_if, u_nil, u_cons, u_tup, u_lst, u_callP, u_call, u_b, u_chain, u_andV, u_addI, u_subI, u_mulI, u_divI, u_modI, u_powI, u_cmpI, u_eqI, u_eqS, u_eqB, u_abs, u_intI, u_intB, u_newT, u_newF, u_isN, u_notN, wVar, List.set_cons_zero, List.set_cons_succ, List.getElem?_cons_zero, List.getElem?_cons_succ, List.length_cons, List.length_nil, u_lc, u_for, u_r1, u_r2, u_r3, u_num, u_notV, u_yes, u_w0, u_w1, u_dput, u_get2, u_dget, u_prop, u_fld, u_setF, u_make, u_makeS, u_met, u_calO, u_orT, u_tupIt, u_dc, u_maxDd, u_dnew, u_tupi, ix_p0, ix_p1, wSl, woNone, woSome]
    rw [if_pos (by decide)]
    exact ⟨_, _, _, rfl, by simp, rfl, by decide, fin_of q⟩
  | und v =>
    ((try dsimp only); rw [u_seq]; (try simp only [u_asg, u_gN, u_ret, u_retN, u_skip, u_expr, u_ifs, u_c, u_op, u_neg, u_test, u_and, u_or, u_not, u_if, u_nil, u_cons, u_tup, u_lst, u_callP, u_call, u_b, u_chain, u_andV, u_addI, u_subI, u_mulI, u_divI, u_modI, u_powI, u_cmpI, u_eqI, u_eqS, u_eqB, u_abs, u_intI, u_intB, u_newT, u_newF, u_isN, u_notN, wVar, List.set_cons_zero, List.set_cons_succ, List.getElem?_cons_zero, List.getElem?_cons_succ, List.length_cons, List.length_nil, u_lc, u_for, u_r1, u_r2, u_r3, u_num, u_notV, u_yes, u_w0, u_w1, u_dput, u_get2, u_dget, u_prop, u_fld, u_setF, u_make, u_makeS, u_met, u_calO, u_orT, u_tupIt, u_dc, u_maxDd, u_dnew, u_tupi, ix_p0, ix_p1, wSl, woNone, woSome]))
    rw [if_neg (by decide)]
    ((try dsimp only); rw [u_seq]; (try simp only [u_asg, u_gN, u_ret, u_retN, u_skip, u_expr, u_ifs, u_c, u_op, u_neg, u_test, u_and, u_or, u_not, u_if, u_nil, u_cons, u_tup, u_lst, u_callP, u_call, u_b, u_chain, u_andV, u_addI, u_subI, u_mulI, u_divI, u_modI, u_powI, u_cmpI, u_eqI, u_eqS, u_eqB, u_abs, u_intI, u_intB, u_newT, u_newF, u_isN, u_notN, wVar, List.set_cons_zero, List.set_cons_succ, List.getElem?_cons_zero, List.getElem?_cons_succ, List.length_cons, List.length_nil, u_lc, u_for, u_r1, u_r2, u_r3, u_num, u_notV, u_yes, u_w0, u_w1, u_dput, u_get2, u_dget, u_prop, u_fld, u_setF, u_make, u_makeS, u_met, u_calO, u_orT, u_tupIt, u_dc, u_maxDd, u_dnew, u_tupi, ix_p0, ix_p1, wSl, woNone, woSome]))
    rw [if_neg (by decide)]
    try simp only [u_asg, u_gN, u_ret, u_retN, u_skip, u_expr, u_ifs, u_c, u_op, u_neg, u_test, u_and, u_or, u_not, u_if, u_nil, u_cons, u_tup, u_lst, u_callP, u_call, u_b, u_chain, u_andV, u_addI, u_subI, u_mulI, u_divI, u_modI, u_powI, u_cmpI, u_eqI, u_eqS, u_eqB, u_abs, u_intI, u_intB, u_newT, u_newF, u_isN, u_notN, wVar, List.set_cons_zero, List.set_cons_succ, List.getElem?_cons_zero, List.getElem?_cons_succ, List.length_cons, List.length_nil, u_lc, u_for, u_r1, u_r2, u_r3, u_num, u_notV, u_yes, u_w0, u_w1, u_dput, u_get2, u_dget, u_prop, u_fld, u_setF, u_make, u_makeS, u_met, u_calO, u_orT, u_tupIt, u_dc, u_maxDd, u_dnew, u_tupi, ix_p0, ix_p1, wSl, woNone, woSome]
    rw [if_neg (by decide)]
    exact ⟨_, _, _, rfl, by simp, rfl, by decide, fin_of q⟩
theorem p__law_heard (z : Ad) : ∀ d tl, MoK tl → ∀ h Q X, S__law_heard z tl h Q X → w__law_heard z d tl (endsD Q X) (startD 7 [d]) h := by
  intro d tl mt h Q X q
  show w__law_heard z d tl (endsD Q X) [some d, none, none, none, none, none, none] h
  unfold w__law_heard
  ((try dsimp only); rw [u_seq]; (try simp only [u_asg, u_gN, u_ret, u_retN, u_skip, u_expr, u_ifs, u_c, u_op, u_neg, u_test, u_and, u_or, u_not, u_if, u_nil, u_cons, u_tup, u_lst, u_callP, u_call, u_b, u_chain, u_andV, u_addI, u_subI, u_mulI, u_divI, u_modI, u_powI, u_cmpI, u_eqI, u_eqS, u_eqB, u_abs, u_intI, u_intB, u_newT, u_newF, u_isN, u_notN, wVar, List.set_cons_zero, List.set_cons_succ, List.getElem?_cons_zero, List.getElem?_cons_succ, List.length_cons, List.length_nil, u_lc, u_for, u_r1, u_r2, u_r3, u_num, u_notV, u_yes, u_w0, u_w1, u_dput, u_get2, u_dget, u_prop, u_fld, u_setF, u_make, u_makeS, u_met, u_calO, u_orT, u_tupIt, u_dc, u_maxDd, u_dnew, u_tupi, ix_p0, ix_p1, wSl, woNone, woSome]))
  ((try dsimp only); rw [u_seq]; (try simp only [u_asg, u_gN, u_ret, u_retN, u_skip, u_expr, u_ifs, u_c, u_op, u_neg, u_test, u_and, u_or, u_not, u_if, u_nil, u_cons, u_tup, u_lst, u_callP, u_call, u_b, u_chain, u_andV, u_addI, u_subI, u_mulI, u_divI, u_modI, u_powI, u_cmpI, u_eqI, u_eqS, u_eqB, u_abs, u_intI, u_intB, u_newT, u_newF, u_isN, u_notN, wVar, List.set_cons_zero, List.set_cons_succ, List.getElem?_cons_zero, List.getElem?_cons_succ, List.length_cons, List.length_nil, u_lc, u_for, u_r1, u_r2, u_r3, u_num, u_notV, u_yes, u_w0, u_w1, u_dput, u_get2, u_dget, u_prop, u_fld, u_setF, u_make, u_makeS, u_met, u_calO, u_orT, u_tupIt, u_dc, u_maxDd, u_dnew, u_tupi, ix_p0, ix_p1, wSl, woNone, woSome]))
  rw [u_seq, u_try, u_asg]
  refine ⟨rfl, mt _ _ _ _ _ (fun d h' q => ?_) (fun x h' q => ?_) q⟩
  · rw [u_gN]
    dsimp only [List.set_cons_zero, List.set_cons_succ]
    ((try dsimp only); rw [u_seq]; (try simp only [u_asg, u_gN, u_ret, u_retN, u_skip, u_expr, u_ifs, u_c, u_op, u_neg, u_test, u_and, u_or, u_not, u_if, u_nil, u_cons, u_tup, u_lst, u_callP, u_call, u_b, u_chain, u_andV, u_addI, u_subI, u_mulI, u_divI, u_modI, u_powI, u_cmpI, u_eqI, u_eqS, u_eqB, u_abs, u_intI, u_intB, u_newT, u_newF, u_isN, u_notN, wVar, List.set_cons_zero, List.set_cons_succ, List.getElem?_cons_zero, List.getElem?_cons_succ, List.length_cons, List.length_nil, u_lc, u_for, u_r1, u_r2, u_r3, u_num, u_notV, u_yes, u_w0, u_w1, u_dput, u_get2, u_dget, u_prop, u_fld, u_setF, u_make, u_makeS, u_met, u_calO, u_orT, u_tupIt, u_dc, u_maxDd, u_dnew, u_tupi, ix_p0, ix_p1, wSl, woNone, woSome]))
    rw [if_pos trivial]
    exact ⟨by decide, fin_of q⟩
  · obtain ⟨C, fs, w, v, rfl, hx, q⟩ := q
    have hx0 := hx
    cases hx with
    | cap v =>
      refine ⟨by simp [errs], ?_⟩
      dsimp only [List.replicate, List.set_cons_succ, List.set_cons_zero]
      rw [u_seq]
      simp only [u_asg, u_gN, u_ret, u_retN, u_skip, u_expr, u_ifs, u_c, u_op, u_neg, u_test, u_and, u_or, u_not, u_if, u_nil, u_cons, u_tup, u_lst, u_callP, u_call, u_b, u_chain, u_andV, u_addI, u_subI, u_mulI, u_divI, u_modI, u_powI, u_cmpI, u_eqI, u_eqS, u_eqB, u_abs, u_intI, u_intB, u_newT, u_newF, u_isN, u_notN, wVar, List.set_cons_zero, List.set_cons_succ, List.getElem?_cons_zero, List.getElem?_cons_succ, List.length_cons, List.length_nil, u_lc, u_for, u_r1, u_r2, u_r3, u_num, u_notV, u_yes, u_w0, u_w1, u_dput, u_get2, u_dget, u_prop, u_fld, u_setF, u_make, u_makeS, u_met, u_calO, u_orT, u_tupIt, u_dc, u_maxDd, u_dnew, u_tupi, ix_p0, ix_p1, wSl, woNone, woSome]
      rw [isN_xob]
      simp only [Bool.false_eq_true, if_false]
      ((try dsimp only); rw [u_seq]; (try simp only [u_asg, u_gN, u_ret, u_retN, u_skip, u_expr, u_ifs, u_c, u_op, u_neg, u_test, u_and, u_or, u_not, u_if, u_nil, u_cons, u_tup, u_lst, u_callP, u_call, u_b, u_chain, u_andV, u_addI, u_subI, u_mulI, u_divI, u_modI, u_powI, u_cmpI, u_eqI, u_eqS, u_eqB, u_abs, u_intI, u_intB, u_newT, u_newF, u_isN, u_notN, wVar, List.set_cons_zero, List.set_cons_succ, List.getElem?_cons_zero, List.getElem?_cons_succ, List.length_cons, List.length_nil, u_lc, u_for, u_r1, u_r2, u_r3, u_num, u_notV, u_yes, u_w0, u_w1, u_dput, u_get2, u_dget, u_prop, u_fld, u_setF, u_make, u_makeS, u_met, u_calO, u_orT, u_tupIt, u_dc, u_maxDd, u_dnew, u_tupi, ix_p0, ix_p1, wSl, woNone, woSome]))
      refine isX_go (b := true) (by simp [xtab]) (isX_go (b := false) (by simp [xtab]) (isX_go (b := false) (by simp [xtab]) ?_))
      refine ⟨szl (by decide), fun p1 hp1 => ?_⟩
      ((try dsimp only); rw [u_seq]; (try simp only [u_asg, u_gN, u_ret, u_retN, u_skip, u_expr, u_ifs, u_c, u_op, u_neg, u_test, u_and, u_or, u_not, u_if, u_nil, u_cons, u_tup, u_lst, u_callP, u_call, u_b, u_chain, u_andV, u_addI, u_subI, u_mulI, u_divI, u_modI, u_powI, u_cmpI, u_eqI, u_eqS, u_eqB, u_abs, u_intI, u_intB, u_newT, u_newF, u_isN, u_notN, wVar, List.set_cons_zero, List.set_cons_succ, List.getElem?_cons_zero, List.getElem?_cons_succ, List.length_cons, List.length_nil, u_lc, u_for, u_r1, u_r2, u_r3, u_num, u_notV, u_yes, u_w0, u_w1, u_dput, u_get2, u_dget, u_prop, u_fld, u_setF, u_make, u_makeS, u_met, u_calO, u_orT, u_tupIt, u_dc, u_maxDd, u_dnew, u_tupi, ix_p0, ix_p1, wSl, woNone, woSome]))
      refine isX_go (b := false) (by simp [xtab]) (isX_go (b := false) (by simp [xtab]) ?_)
      refine ⟨szl (by decide), ?_⟩
      refine ⟨_, _, lst_ref up_same, rfl, szl (by decide), fun p2 hp2 => ?_⟩
      ((try dsimp only); rw [u_seq]; (try simp only [u_asg, u_gN, u_ret, u_retN, u_skip, u_expr, u_ifs, u_c, u_op, u_neg, u_test, u_and, u_or, u_not, u_if, u_nil, u_cons, u_tup, u_lst, u_callP, u_call, u_b, u_chain, u_andV, u_addI, u_subI, u_mulI, u_divI, u_modI, u_powI, u_cmpI, u_eqI, u_eqS, u_eqB, u_abs, u_intI, u_intB, u_newT, u_newF, u_isN, u_notN, wVar, List.set_cons_zero, List.set_cons_succ, List.getElem?_cons_zero, List.getElem?_cons_succ, List.length_cons, List.length_nil, u_lc, u_for, u_r1, u_r2, u_r3, u_num, u_notV, u_yes, u_w0, u_w1, u_dput, u_get2, u_dget, u_prop, u_fld, u_setF, u_make, u_makeS, u_met, u_calO, u_orT, u_tupIt, u_dc, u_maxDd, u_dnew, u_tupi, ix_p0, ix_p1, wSl, woNone, woSome]))
      simp only [wMethT, u_asg, u_gN, u_ret, u_retN, u_skip, u_expr, u_ifs, u_c, u_op, u_neg, u_test, u_and, u_or, u_not, u_if, u_nil, u_cons, u_tup, u_lst, u_callP, u_call, u_b, u_chain, u_andV, u_addI, u_subI, u_mulI, u_divI, u_modI, u_powI, u_cmpI, u_eqI, u_eqS, u_eqB, u_abs, u_intI, u_intB, u_newT, u_newF, u_isN, u_notN, wVar, List.set_cons_zero, List.set_cons_succ, List.getElem?_cons_zero, List.getElem?_cons_succ, List.length_cons, List.length_nil, u_lc, u_for, u_r1, u_r2, u_r3, u_num, u_notV, u_yes, u_w0, u_w1, u_dput, u_get2, u_dget, u_prop, u_fld, u_setF, u_make, u_makeS, u_met, u_calO, u_orT, u_tupIt, u_dc, u_maxDd, u_dnew, u_tupi, ix_p0, ix_p1, wSl, woNone, woSome]
      refine ⟨⟨_, lst_ref up_same⟩, isX_go (b := false) (by simp [xtab]) ?_⟩
      refine ⟨p2, _, _, rfl, rfl, up_same, lt_sz (by decide), ?_⟩
      rw [up_up]
      have e2 : (up (up h' p1 (AO.lst [D.bl true, D.bl false, D.bl false])) p2 (AO.lst ([D.bl true, D.bl false, D.bl false] ++ [D.bl false, D.bl false] ++ [D.bl false]))) p2 = some (AO.lst (([true, false, false, false, false, false] : List Bool).map D.bl)) := up_same
      have sb : Sub h' (up (up h' p1 (AO.lst [D.bl true, D.bl false, D.bl false])) p2 (AO.lst ([D.bl true, D.bl false, D.bl false] ++ [D.bl false, D.bl false] ++ [D.bl false]))) := (sub_up hp1).trans (sub_up hp2)
      dsimp only [List.cons_append, List.nil_append] at e2 sb ⊢
      generalize (up (up h' p1 (AO.lst [D.bl true, D.bl false, D.bl false])) p2 (AO.lst [D.bl true, D.bl false, D.bl false, D.bl false, D.bl false, D.bl false])) = g at e2 sb ⊢
      clear hp1 hp2
      ((try dsimp only); rw [u_seq]; (try simp only [u_asg, u_gN, u_ret, u_retN, u_skip, u_expr, u_ifs, u_c, u_op, u_neg, u_test, u_and, u_or, u_not, u_if, u_nil, u_cons, u_tup, u_lst, u_callP, u_call, u_b, u_chain, u_andV, u_addI, u_subI, u_mulI, u_divI, u_modI, u_powI, u_cmpI, u_eqI, u_eqS, u_eqB, u_abs, u_intI, u_intB, u_newT, u_newF, u_isN, u_notN, wVar, List.set_cons_zero, List.set_cons_succ, List.getElem?_cons_zero, List.getElem?_cons_succ, List.length_cons, List.length_nil, u_lc, u_for, u_r1, u_r2, u_r3, u_num, u_notV, u_yes, u_w0, u_w1, u_dput, u_get2, u_dget, u_prop, u_fld, u_setF, u_make, u_makeS, u_met, u_calO, u_orT, u_tupIt, u_dc, u_maxDd, u_dnew, u_tupi, ix_p0, ix_p1, wSl, woNone, woSome]))
      refine ⟨by decide, _, _, _, false, rfl, by simp, any6 (by simp [xtab]) (by simp [xtab]) (by simp [xtab]) (by simp [xtab]) (by simp [xtab]) (by simp [xtab]), ?_⟩
      ((try dsimp only); rw [u_seq]; (try simp only [u_asg, u_gN, u_ret, u_retN, u_skip, u_expr, u_ifs, u_c, u_op, u_neg, u_test, u_and, u_or, u_not, u_if, u_nil, u_cons, u_tup, u_lst, u_callP, u_call, u_b, u_chain, u_andV, u_addI, u_subI, u_mulI, u_divI, u_modI, u_powI, u_cmpI, u_eqI, u_eqS, u_eqB, u_abs, u_intI, u_intB, u_newT, u_newF, u_isN, u_notN, wVar, List.set_cons_zero, List.set_cons_succ, List.getElem?_cons_zero, List.getElem?_cons_succ, List.length_cons, List.length_nil, u_lc, u_for, u_r1, u_r2, u_r3, u_num, u_notV, u_yes, u_w0, u_w1, u_dput, u_get2, u_dget, u_prop, u_fld, u_setF, u_make, u_makeS, u_met, u_calO, u_orT, u_tupIt, u_dc, u_maxDd, u_dnew, u_tupi, ix_p0, ix_p1, wSl, woNone, woSome]))
      refine ⟨false, rfl, ?_⟩
      rw [if_neg (by decide)]
      refine ⟨by decide, _, _, _, false, rfl, by simp, any6 (by simp [xtab]) (by simp [xtab]) (by simp [xtab]) (by simp [xtab]) (by simp [xtab]) (by simp [xtab]), ?_⟩
      ((try dsimp only); rw [u_seq]; (try simp only [u_asg, u_gN, u_ret, u_retN, u_skip, u_expr, u_ifs, u_c, u_op, u_neg, u_test, u_and, u_or, u_not, u_if, u_nil, u_cons, u_tup, u_lst, u_callP, u_call, u_b, u_chain, u_andV, u_addI, u_subI, u_mulI, u_divI, u_modI, u_powI, u_cmpI, u_eqI, u_eqS, u_eqB, u_abs, u_intI, u_intB, u_newT, u_newF, u_isN, u_notN, wVar, List.set_cons_zero, List.set_cons_succ, List.getElem?_cons_zero, List.getElem?_cons_succ, List.length_cons, List.length_nil, u_lc, u_for, u_r1, u_r2, u_r3, u_num, u_notV, u_yes, u_w0, u_w1, u_dput, u_get2, u_dget, u_prop, u_fld, u_setF, u_make, u_makeS, u_met, u_calO, u_orT, u_tupIt, u_dc, u_maxDd, u_dnew, u_tupi, ix_p0, ix_p1, wSl, woNone, woSome]))
      simp only [wTruth, wMethT, u_asg, u_gN, u_ret, u_retN, u_skip, u_expr, u_ifs, u_c, u_op, u_neg, u_test, u_and, u_or, u_not, u_if, u_nil, u_cons, u_tup, u_lst, u_callP, u_call, u_b, u_chain, u_andV, u_addI, u_subI, u_mulI, u_divI, u_modI, u_powI, u_cmpI, u_eqI, u_eqS, u_eqB, u_abs, u_intI, u_intB, u_newT, u_newF, u_isN, u_notN, wVar, List.set_cons_zero, List.set_cons_succ, List.getElem?_cons_zero, List.getElem?_cons_succ, List.length_cons, List.length_nil, u_lc, u_for, u_r1, u_r2, u_r3, u_num, u_notV, u_yes, u_w0, u_w1, u_dput, u_get2, u_dget, u_prop, u_fld, u_setF, u_make, u_makeS, u_met, u_calO, u_orT, u_tupIt, u_dc, u_maxDd, u_dnew, u_tupi, ix_p0, ix_p1, wSl, woNone, woSome]
      refine ⟨false, rfl, ?_⟩
      try dsimp only
      rw [if_neg (by decide)]
      refine ⟨by decide, _, _, _, false, rfl, by simp, any3 (by simp [xtab]) (by simp [xtab]) (by simp [xtab]), ?_⟩
      dsimp only
      rw [if_neg (by decide)]
      refine ⟨⟨_, lst_ref e2⟩, [true, false, false, false, false, false], true, lst_ref e2, rfl, ?_⟩
      dsimp only
      rw [u_eqI, show (!decide (((([true, false, false, false, false, false] : List Bool).countP fun b => b == true : Nat) : Int) = 1)) = false from by decide]
      dsimp only
      rw [if_neg (by decide)]
      ((try dsimp only); rw [u_seq]; (try simp only [u_asg, u_gN, u_ret, u_retN, u_skip, u_expr, u_ifs, u_c, u_op, u_neg, u_test, u_and, u_or, u_not, u_if, u_nil, u_cons, u_tup, u_lst, u_callP, u_call, u_b, u_chain, u_andV, u_addI, u_subI, u_mulI, u_divI, u_modI, u_powI, u_cmpI, u_eqI, u_eqS, u_eqB, u_abs, u_intI, u_intB, u_newT, u_newF, u_isN, u_notN, wVar, List.set_cons_zero, List.set_cons_succ, List.getElem?_cons_zero, List.getElem?_cons_succ, List.length_cons, List.length_nil, u_lc, u_for, u_r1, u_r2, u_r3, u_num, u_notV, u_yes, u_w0, u_w1, u_dput, u_get2, u_dget, u_prop, u_fld, u_setF, u_make, u_makeS, u_met, u_calO, u_orT, u_tupIt, u_dc, u_maxDd, u_dnew, u_tupi, ix_p0, ix_p1, wSl, woNone, woSome]))
      simp only [wMethT, u_asg, u_gN, u_ret, u_retN, u_skip, u_expr, u_ifs, u_c, u_op, u_neg, u_test, u_and, u_or, u_not, u_if, u_nil, u_cons, u_tup, u_lst, u_callP, u_call, u_b, u_chain, u_andV, u_addI, u_subI, u_mulI, u_divI, u_modI, u_powI, u_cmpI, u_eqI, u_eqS, u_eqB, u_abs, u_intI, u_intB, u_newT, u_newF, u_isN, u_notN, wVar, List.set_cons_zero, List.set_cons_succ, List.getElem?_cons_zero, List.getElem?_cons_succ, List.length_cons, List.length_nil, u_lc, u_for, u_r1, u_r2, u_r3, u_num, u_notV, u_yes, u_w0, u_w1, u_dput, u_get2, u_dget, u_prop, u_fld, u_setF, u_make, u_makeS, u_met, u_calO, u_orT, u_tupIt, u_dc, u_maxDd, u_dnew, u_tupi, ix_p0, ix_p1, wSl, woNone, woSome]
      refine ⟨⟨_, lst_ref e2⟩, [true, false, false, false, false, false], true, 0, lst_ref e2, rfl, rfl, ?_⟩
      ((try dsimp only); rw [u_seq]; (try simp only [u_asg, u_gN, u_ret, u_retN, u_skip, u_expr, u_ifs, u_c, u_op, u_neg, u_test, u_and, u_or, u_not, u_if, u_nil, u_cons, u_tup, u_lst, u_callP, u_call, u_b, u_chain, u_andV, u_addI, u_subI, u_mulI, u_divI, u_modI, u_powI, u_cmpI, u_eqI, u_eqS, u_eqB, u_abs, u_intI, u_intB, u_newT, u_newF, u_isN, u_notN, wVar, List.set_cons_zero, List.set_cons_succ, List.getElem?_cons_zero, List.getElem?_cons_succ, List.length_cons, List.length_nil, u_lc, u_for, u_r1, u_r2, u_r3, u_num, u_notV, u_yes, u_w0, u_w1, u_dput, u_get2, u_dget, u_prop, u_fld, u_setF, u_make, u_makeS, u_met, u_calO, u_orT, u_tupIt, u_dc, u_maxDd, u_dnew, u_tupi, ix_p0, ix_p1, wSl, woNone, woSome]))
      refine isX_go (b := true) (by simp [xtab]) ?_
      rw [show (decide (((0 : Nat) : Int) < 4)) = true from by decide, u_eqB]
      dsimp only
      rw [if_neg (by decide)]
      refine isX_go (b := false) (by simp [xtab]) ?_
      rw [show (decide (3 < ((0 : Nat) : Int))) = false from by decide, u_eqB]
      dsimp only
      rw [if_neg (by decide)]
      exact ⟨trivial, _, _, _, _, rfl, hx0, fin_sub sb q⟩
    | red v =>
      refine ⟨by simp [errs], ?_⟩
      dsimp only [List.replicate, List.set_cons_succ, List.set_cons_zero]
      rw [u_seq]
      simp only [u_asg, u_gN, u_ret, u_retN, u_skip, u_expr, u_ifs, u_c, u_op, u_neg, u_test, u_and, u_or, u_not, u_if, u_nil, u_cons, u_tup, u_lst, u_callP, u_call, u_b, u_chain, u_andV, u_addI, u_subI, u_mulI, u_divI, u_modI, u_powI, u_cmpI, u_eqI, u_eqS, u_eqB, u_abs, u_intI, u_intB, u_newT, u_newF, u_isN, u_notN, wVar, List.set_cons_zero, List.set_cons_succ, List.getElem?_cons_zero, List.getElem?_cons_succ, List.length_cons, List.length_nil, u_lc, u_for, u_r1, u_r2, u_r3, u_num, u_notV, u_yes, u_w0, u_w1, u_dput, u_get2, u_dget, u_prop, u_fld, u_setF, u_make, u_makeS, u_met, u_calO, u_orT, u_tupIt, u_dc, u_maxDd, u_dnew, u_tupi, ix_p0, ix_p1, wSl, woNone, woSome]
      rw [isN_xob]
      simp only [Bool.false_eq_true, if_false]
      ((try dsimp only); rw [u_seq]; (try simp only [u_asg, u_gN, u_ret, u_retN, u_skip, u_expr, u_ifs, u_c, u_op, u_neg, u_test, u_and, u_or, u_not, u_if, u_nil, u_cons, u_tup, u_lst, u_callP, u_call, u_b, u_chain, u_andV, u_addI, u_subI, u_mulI, u_divI, u_modI, u_powI, u_cmpI, u_eqI, u_eqS, u_eqB, u_abs, u_intI, u_intB, u_newT, u_newF, u_isN, u_notN, wVar, List.set_cons_zero, List.set_cons_succ, List.getElem?_cons_zero, List.getElem?_cons_succ, List.length_cons, List.length_nil, u_lc, u_for, u_r1, u_r2, u_r3, u_num, u_notV, u_yes, u_w0, u_w1, u_dput, u_get2, u_dget, u_prop, u_fld, u_setF, u_make, u_makeS, u_met, u_calO, u_orT, u_tupIt, u_dc, u_maxDd, u_dnew, u_tupi, ix_p0, ix_p1, wSl, woNone, woSome]))
      refine isX_go (b := false) (by simp [xtab]) (isX_go (b := true) (by simp [xtab]) (isX_go (b := false) (by simp [xtab]) ?_))
      refine ⟨szl (by decide), fun p1 hp1 => ?_⟩
      ((try dsimp only); rw [u_seq]; (try simp only [u_asg, u_gN, u_ret, u_retN, u_skip, u_expr, u_ifs, u_c, u_op, u_neg, u_test, u_and, u_or, u_not, u_if, u_nil, u_cons, u_tup, u_lst, u_callP, u_call, u_b, u_chain, u_andV, u_addI, u_subI, u_mulI, u_divI, u_modI, u_powI, u_cmpI, u_eqI, u_eqS, u_eqB, u_abs, u_intI, u_intB, u_newT, u_newF, u_isN, u_notN, wVar, List.set_cons_zero, List.set_cons_succ, List.getElem?_cons_zero, List.getElem?_cons_succ, List.length_cons, List.length_nil, u_lc, u_for, u_r1, u_r2, u_r3, u_num, u_notV, u_yes, u_w0, u_w1, u_dput, u_get2, u_dget, u_prop, u_fld, u_setF, u_make, u_makeS, u_met, u_calO, u_orT, u_tupIt, u_dc, u_maxDd, u_dnew, u_tupi, ix_p0, ix_p1, wSl, woNone, woSome]))
      refine isX_go (b := false) (by simp [xtab]) (isX_go (b := false) (by simp [xtab]) ?_)
      refine ⟨szl (by decide), ?_⟩
      refine ⟨_, _, lst_ref up_same, rfl, szl (by decide), fun p2 hp2 => ?_⟩
      ((try dsimp only); rw [u_seq]; (try simp only [u_asg, u_gN, u_ret, u_retN, u_skip, u_expr, u_ifs, u_c, u_op, u_neg, u_test, u_and, u_or, u_not, u_if, u_nil, u_cons, u_tup, u_lst, u_callP, u_call, u_b, u_chain, u_andV, u_addI, u_subI, u_mulI, u_divI, u_modI, u_powI, u_cmpI, u_eqI, u_eqS, u_eqB, u_abs, u_intI, u_intB, u_newT, u_newF, u_isN, u_notN, wVar, List.set_cons_zero, List.set_cons_succ, List.getElem?_cons_zero, List.getElem?_cons_succ, List.length_cons, List.length_nil, u_lc, u_for, u_r1, u_r2, u_r3, u_num, u_notV, u_yes, u_w0, u_w1, u_dput, u_get2, u_dget, u_prop, u_fld, u_setF, u_make, u_makeS, u_met, u_calO, u_orT, u_tupIt, u_dc, u_maxDd, u_dnew, u_tupi, ix_p0, ix_p1, wSl, woNone, woSome]))
      simp only [wMethT, u_asg, u_gN, u_ret, u_retN, u_skip, u_expr, u_ifs, u_c, u_op, u_neg, u_test, u_and, u_or, u_not, u_if, u_nil, u_cons, u_tup, u_lst, u_callP, u_call, u_b, u_chain, u_andV, u_addI, u_subI, u_mulI, u_divI, u_modI, u_powI, u_cmpI, u_eqI, u_eqS, u_eqB, u_abs, u_intI, u_intB, u_newT, u_newF, u_isN, u_notN, wVar, List.set_cons_zero, List.set_cons_succ, List.getElem?_cons_zero, List.getElem?_cons_succ, List.length_cons, List.length_nil, u_lc, u_for, u_r1, u_r2, u_r3, u_num, u_notV, u_yes, u_w0, u_w1, u_dput, u_get2, u_dget, u_prop, u_fld, u_setF, u_make, u_makeS, u_met, u_calO, u_orT, u_tupIt, u_dc, u_maxDd, u_dnew, u_tupi, ix_p0, ix_p1, wSl, woNone, woSome]
      refine ⟨⟨_, lst_ref up_same⟩, isX_go (b := false) (by simp [xtab]) ?_⟩
      refine ⟨p2, _, _, rfl, rfl, up_same, lt_sz (by decide), ?_⟩
      rw [up_up]
      have e2 : (up (up h' p1 (AO.lst [D.bl false, D.bl true, D.bl false])) p2 (AO.lst ([D.bl false, D.bl true, D.bl false] ++ [D.bl false, D.bl false] ++ [D.bl false]))) p2 = some (AO.lst (([false, true, false, false, false, false] : List Bool).map D.bl)) := up_same
      have sb : Sub h' (up (up h' p1 (AO.lst [D.bl false, D.bl true, D.bl false])) p2 (AO.lst ([D.bl false, D.bl true, D.bl false] ++ [D.bl false, D.bl false] ++ [D.bl false]))) := (sub_up hp1).trans (sub_up hp2)
      dsimp only [List.cons_append, List.nil_append] at e2 sb ⊢
      generalize (up (up h' p1 (AO.lst [D.bl false, D.bl true, D.bl false])) p2 (AO.lst [D.bl false, D.bl true, D.bl false, D.bl false, D.bl false, D.bl false])) = g at e2 sb ⊢
      clear hp1 hp2
      ((try dsimp only); rw [u_seq]; (try simp only [u_asg, u_gN, u_ret, u_retN, u_skip, u_expr, u_ifs, u_c, u_op, u_neg, u_test, u_and, u_or, u_not, u_if, u_nil, u_cons, u_tup, u_lst, u_callP, u_call, u_b, u_chain, u_andV, u_addI, u_subI, u_mulI, u_divI, u_modI, u_powI, u_cmpI, u_eqI, u_eqS, u_eqB, u_abs, u_intI, u_intB, u_newT, u_newF, u_isN, u_notN, wVar, List.set_cons_zero, List.set_cons_succ, List.getElem?_cons_zero, List.getElem?_cons_succ, List.length_cons, List.length_nil, u_lc, u_for, u_r1, u_r2, u_r3, u_num, u_notV, u_yes, u_w0, u_w1, u_dput, u_get2, u_dget, u_prop, u_fld, u_setF, u_make, u_makeS, u_met, u_calO, u_orT, u_tupIt, u_dc, u_maxDd, u_dnew, u_tupi, ix_p0, ix_p1, wSl, woNone, woSome]))
      refine ⟨by decide, _, _, _, false, rfl, by simp, any6 (by simp [xtab]) (by simp [xtab]) (by simp [xtab]) (by simp [xtab]) (by simp [xtab]) (by simp [xtab]), ?_⟩
      ((try dsimp only); rw [u_seq]; (try simp only [u_asg, u_gN, u_ret, u_retN, u_skip, u_expr, u_ifs, u_c, u_op, u_neg, u_test, u_and, u_or, u_not, u_if, u_nil, u_cons, u_tup, u_lst, u_callP, u_call, u_b, u_chain, u_andV, u_addI, u_subI, u_mulI, u_divI, u_modI, u_powI, u_cmpI, u_eqI, u_eqS, u_eqB, u_abs, u_intI, u_intB, u_newT, u_newF, u_isN, u_notN, wVar, List.set_cons_zero, List.set_cons_succ, List.getElem?_cons_zero, List.getElem?_cons_succ, List.length_cons, List.length_nil, u_lc, u_for, u_r1, u_r2, u_r3, u_num, u_notV, u_yes, u_w0, u_w1, u_dput, u_get2, u_dget, u_prop, u_fld, u_setF, u_make, u_makeS, u_met, u_calO, u_orT, u_tupIt, u_dc, u_maxDd, u_dnew, u_tupi, ix_p0, ix_p1, wSl, woNone, woSome]))
      refine ⟨false, rfl, ?_⟩
      rw [if_neg (by decide)]
      refine ⟨by decide, _, _, _, false, rfl, by simp, any6 (by simp [xtab]) (by simp [xtab]) (by simp [xtab]) (by simp [xtab]) (by simp [xtab]) (by simp [xtab]), ?_⟩
      ((try dsimp only); rw [u_seq]; (try simp only [u_asg, u_gN, u_ret, u_retN, u_skip, u_expr, u_ifs, u_c, u_op, u_neg, u_test, u_and, u_or, u_not, u_if, u_nil, u_cons, u_tup, u_lst, u_callP, u_call, u_b, u_chain, u_andV, u_addI, u_subI, u_mulI, u_divI, u_modI, u_powI, u_cmpI, u_eqI, u_eqS, u_eqB, u_abs, u_intI, u_intB, u_newT, u_newF, u_isN, u_notN, wVar, List.set_cons_zero, List.set_cons_succ, List.getElem?_cons_zero, List.getElem?_cons_succ, List.length_cons, List.length_nil, u_lc, u_for, u_r1, u_r2, u_r3, u_num, u_notV, u_yes, u_w0, u_w1, u_dput, u_get2, u_dget, u_prop, u_fld, u_setF, u_make, u_makeS, u_met, u_calO, u_orT, u_tupIt, u_dc, u_maxDd, u_dnew, u_tupi, ix_p0, ix_p1, wSl, woNone, woSome]))
      simp only [wTruth, wMethT, u_asg, u_gN, u_ret, u_retN, u_skip, u_expr, u_ifs, u_c, u_op, u_neg, u_test, u_and, u_or, u_not, u_if, u_nil, u_cons, u_tup, u_lst, u_callP, u_call, u_b, u_chain, u_andV, u_addI, u_subI, u_mulI, u_divI, u_modI, u_powI, u_cmpI, u_eqI, u_eqS, u_eqB, u_abs, u_intI, u_intB, u_newT, u_newF, u_isN, u_notN, wVar, List.set_cons_zero, List.set_cons_succ, List.getElem?_cons_zero, List.getElem?_cons_succ, List.length_cons, List.length_nil, u_lc, u_for, u_r1, u_r2, u_r3, u_num, u_notV, u_yes, u_w0, u_w1, u_dput, u_get2, u_dget, u_prop, u_fld, u_setF, u_make, u_makeS, u_met, u_calO, u_orT, u_tupIt, u_dc, u_maxDd, u_dnew, u_tupi, ix_p0, ix_p1, wSl, woNone, woSome]
      refine ⟨false, rfl, ?_⟩
      try dsimp only
      rw [if_neg (by decide)]
      refine ⟨by decide, _, _, _, false, rfl, by simp, any3 (by simp [xtab]) (by simp [xtab]) (by simp [xtab]), ?_⟩
      dsimp only
      rw [if_neg (by decide)]
      refine ⟨⟨_, lst_ref e2⟩, [false, true, false, false, false, false], true, lst_ref e2, rfl, ?_⟩
      dsimp only
      rw [u_eqI, show (!decide (((([false, true, false, false, false, false] : List Bool).countP fun b => b == true : Nat) : Int) = 1)) = false from by decide]
      dsimp only
      rw [if_neg (by decide)]
      ((try dsimp only); rw [u_seq]; (try simp only [u_asg, u_gN, u_ret, u_retN, u_skip, u_expr, u_ifs, u_c, u_op, u_neg, u_test, u_and, u_or, u_not, u_if, u_nil, u_cons, u_tup, u_lst, u_callP, u_call, u_b, u_chain, u_andV, u_addI, u_subI, u_mulI, u_divI, u_modI, u_powI, u_cmpI, u_eqI, u_eqS, u_eqB, u_abs, u_intI, u_intB, u_newT, u_newF, u_isN, u_notN, wVar, List.set_cons_zero, List.set_cons_succ, List.getElem?_cons_zero, List.getElem?_cons_succ, List.length_cons, List.length_nil, u_lc, u_for, u_r1, u_r2, u_r3, u_num, u_notV, u_yes, u_w0, u_w1, u_dput, u_get2, u_dget, u_prop, u_fld, u_setF, u_make, u_makeS, u_met, u_calO, u_orT, u_tupIt, u_dc, u_maxDd, u_dnew, u_tupi, ix_p0, ix_p1, wSl, woNone, woSome]))
      simp only [wMethT, u_asg, u_gN, u_ret, u_retN, u_skip, u_expr, u_ifs, u_c, u_op, u_neg, u_test, u_and, u_or, u_not, u_if, u_nil, u_cons, u_tup, u_lst, u_callP, u_call, u_b, u_chain, u_andV, u_addI, u_subI, u_mulI, u_divI, u_modI, u_powI, u_cmpI, u_eqI, u_eqS, u_eqB, u_abs, u_intI, u_intB, u_newT, u_newF, u_isN, u_notN, wVar, List.set_cons_zero, List.set_cons_succ, List.getElem?_cons_zero, List.getElem?_cons_succ, List.length_cons, List.length_nil, u_lc, u_for, u_r1, u_r2, u_r3, u_num, u_notV, u_yes, u_w0, u_w1, u_dput, u_get2, u_dget, u_prop, u_fld, u_setF, u_make, u_makeS, u_met, u_calO, u_orT, u_tupIt, u_dc, u_maxDd, u_dnew, u_tupi, ix_p0, ix_p1, wSl, woNone, woSome]
      refine ⟨⟨_, lst_ref e2⟩, [false, true, false, false, false, false], true, 1, lst_ref e2, rfl, rfl, ?_⟩
      ((try dsimp only); rw [u_seq]; (try simp only [u_asg, u_gN, u_ret, u_retN, u_skip, u_expr, u_ifs, u_c, u_op, u_neg, u_test, u_and, u_or, u_not, u_if, u_nil, u_cons, u_tup, u_lst, u_callP, u_call, u_b, u_chain, u_andV, u_addI, u_subI, u_mulI, u_divI, u_modI, u_powI, u_cmpI, u_eqI, u_eqS, u_eqB, u_abs, u_intI, u_intB, u_newT, u_newF, u_isN, u_notN, wVar, List.set_cons_zero, List.set_cons_succ, List.getElem?_cons_zero, List.getElem?_cons_succ, List.length_cons, List.length_nil, u_lc, u_for, u_r1, u_r2, u_r3, u_num, u_notV, u_yes, u_w0, u_w1, u_dput, u_get2, u_dget, u_prop, u_fld, u_setF, u_make, u_makeS, u_met, u_calO, u_orT, u_tupIt, u_dc, u_maxDd, u_dnew, u_tupi, ix_p0, ix_p1, wSl, woNone, woSome]))
      refine isX_go (b := true) (by simp [xtab]) ?_
      rw [show (decide (((1 : Nat) : Int) < 4)) = true from by decide, u_eqB]
      dsimp only
      rw [if_neg (by decide)]
      refine isX_go (b := false) (by simp [xtab]) ?_
      rw [show (decide (3 < ((1 : Nat) : Int))) = false from by decide, u_eqB]
      dsimp only
      rw [if_neg (by decide)]
      exact ⟨trivial, _, _, _, _, rfl, hx0, fin_sub sb q⟩
    | bnd v =>
      refine ⟨by simp [errs], ?_⟩
      dsimp only [List.replicate, List.set_cons_succ, List.set_cons_zero]
      rw [u_seq]
      simp only [u_asg, u_gN, u_ret, u_retN, u_skip, u_expr, u_ifs, u_c, u_op, u_neg, u_test, u_and, u_or, u_not, u_if, u_nil, u_cons, u_tup, u_lst, u_callP, u_call, u_b, u_chain, u_andV, u_addI, u_subI, u_mulI, u_divI, u_modI, u_powI, u_cmpI, u_eqI, u_eqS, u_eqB, u_abs, u_intI, u_intB, u_newT, u_newF, u_isN, u_notN, wVar, List.set_cons_zero, List.set_cons_succ, List.getElem?_cons_zero, List.getElem?_cons_succ, List.length_cons, List.length_nil, u_lc, u_for, u_r1, u_r2, u_r3, u_num, u_notV, u_yes, u_w0, u_w1, u_dput, u_get2, u_dget, u_prop, u_fld, u_setF, u_make, u_makeS, u_met, u_calO, u_orT, u_tupIt, u_dc, u_maxDd, u_dnew, u_tupi, ix_p0, ix_p1, wSl, woNone, woSome]
      rw [isN_xob]
      simp only [Bool.false_eq_true, if_false]
      ((try dsimp only); rw [u_seq]; (try simp only [u_asg, u_gN, u_ret, u_retN, u_skip, u_expr, u_ifs, u_c, u_op, u_neg, u_test, u_and, u_or, u_not, u_if, u_nil, u_cons, u_tup, u_lst, u_callP, u_call, u_b, u_chain, u_andV, u_addI, u_subI, u_mulI, u_divI, u_modI, u_powI, u_cmpI, u_eqI, u_eqS, u_eqB, u_abs, u_intI, u_intB, u_newT, u_newF, u_isN, u_notN, wVar, List.set_cons_zero, List.set_cons_succ, List.getElem?_cons_zero, List.getElem?_cons_succ, List.length_cons, List.length_nil, u_lc, u_for, u_r1, u_r2, u_r3, u_num, u_notV, u_yes, u_w0, u_w1, u_dput, u_get2, u_dget, u_prop, u_fld, u_setF, u_make, u_makeS, u_met, u_calO, u_orT, u_tupIt, u_dc, u_maxDd, u_dnew, u_tupi, ix_p0, ix_p1, wSl, woNone, woSome]))
      refine isX_go (b := false) (by simp [xtab]) (isX_go (b := false) (by simp [xtab]) (isX_go (b := true) (by simp [xtab]) ?_))
      refine ⟨szl (by decide), fun p1 hp1 => ?_⟩
      ((try dsimp only); rw [u_seq]; (try simp only [u_asg, u_gN, u_ret, u_retN, u_skip, u_expr, u_ifs, u_c, u_op, u_neg, u_test, u_and, u_or, u_not, u_if, u_nil, u_cons, u_tup, u_lst, u_callP, u_call, u_b, u_chain, u_andV, u_addI, u_subI, u_mulI, u_divI, u_modI, u_powI, u_cmpI, u_eqI, u_eqS, u_eqB, u_abs, u_intI, u_intB, u_newT, u_newF, u_isN, u_notN, wVar, List.set_cons_zero, List.set_cons_succ, List.getElem?_cons_zero, List.getElem?_cons_succ, List.length_cons, List.length_nil, u_lc, u_for, u_r1, u_r2, u_r3, u_num, u_notV, u_yes, u_w0, u_w1, u_dput, u_get2, u_dget, u_prop, u_fld, u_setF, u_make, u_makeS, u_met, u_calO, u_orT, u_tupIt, u_dc, u_maxDd, u_dnew, u_tupi, ix_p0, ix_p1, wSl, woNone, woSome]))
      refine isX_go (b := false) (by simp [xtab]) (isX_go (b := false) (by simp [xtab]) ?_)
      refine ⟨szl (by decide), ?_⟩
      refine ⟨_, _, lst_ref up_same, rfl, szl (by decide), fun p2 hp2 => ?_⟩
      ((try dsimp only); rw [u_seq]; (try simp only [u_asg, u_gN, u_ret, u_retN, u_skip, u_expr, u_ifs, u_c, u_op, u_neg, u_test, u_and, u_or, u_not, u_if, u_nil, u_cons, u_tup, u_lst, u_callP, u_call, u_b, u_chain, u_andV, u_addI, u_subI, u_mulI, u_divI, u_modI, u_powI, u_cmpI, u_eqI, u_eqS, u_eqB, u_abs, u_intI, u_intB, u_newT, u_newF, u_isN, u_notN, wVar, List.set_cons_zero, List.set_cons_succ, List.getElem?_cons_zero, List.getElem?_cons_succ, List.length_cons, List.length_nil, u_lc, u_for, u_r1, u_r2, u_r3, u_num, u_notV, u_yes, u_w0, u_w1, u_dput, u_get2, u_dget, u_prop, u_fld, u_setF, u_make, u_makeS, u_met, u_calO, u_orT, u_tupIt, u_dc, u_maxDd, u_dnew, u_tupi, ix_p0, ix_p1, wSl, woNone, woSome]))
      simp only [wMethT, u_asg, u_gN, u_ret, u_retN, u_skip, u_expr, u_ifs, u_c, u_op, u_neg, u_test, u_and, u_or, u_not, u_if, u_nil, u_cons, u_tup, u_lst, u_callP, u_call, u_b, u_chain, u_andV, u_addI, u_subI, u_mulI, u_divI, u_modI, u_powI, u_cmpI, u_eqI, u_eqS, u_eqB, u_abs, u_intI, u_intB, u_newT, u_newF, u_isN, u_notN, wVar, List.set_cons_zero, List.set_cons_succ, List.getElem?_cons_zero, List.getElem?_cons_succ, List.length_cons, List.length_nil, u_lc, u_for, u_r1, u_r2, u_r3, u_num, u_notV, u_yes, u_w0, u_w1, u_dput, u_get2, u_dget, u_prop, u_fld, u_setF, u_make, u_makeS, u_met, u_calO, u_orT, u_tupIt, u_dc, u_maxDd, u_dnew, u_tupi, ix_p0, ix_p1, wSl, woNone, woSome]
      refine ⟨⟨_, lst_ref up_same⟩, isX_go (b := false) (by simp [xtab]) ?_⟩
      refine ⟨p2, _, _, rfl, rfl, up_same, lt_sz (by decide), ?_⟩
      rw [up_up]
      have e2 : (up (up h' p1 (AO.lst [D.bl false, D.bl false, D.bl true])) p2 (AO.lst ([D.bl false, D.bl false, D.bl true] ++ [D.bl false, D.bl false] ++ [D.bl false]))) p2 = some (AO.lst (([false, false, true, false, false, false] : List Bool).map D.bl)) := up_same
      have sb : Sub h' (up (up h' p1 (AO.lst [D.bl false, D.bl false, D.bl true])) p2 (AO.lst ([D.bl false, D.bl false, D.bl true] ++ [D.bl false, D.bl false] ++ [D.bl false]))) := (sub_up hp1).trans (sub_up hp2)
      dsimp only [List.cons_append, List.nil_append] at e2 sb ⊢
      generalize (up (up h' p1 (AO.lst [D.bl false, D.bl false, D.bl true])) p2 (AO.lst [D.bl false, D.bl false, D.bl true, D.bl false, D.bl false, D.bl false])) = g at e2 sb ⊢
      clear hp1 hp2
      ((try dsimp only); rw [u_seq]; (try simp only [u_asg, u_gN, u_ret, u_retN, u_skip, u_expr, u_ifs, u_c, u_op, u_neg, u_test, u_and, u_or, u_not, u_if, u_nil, u_cons, u_tup, u_lst, u_callP, u_call, u_b, u_chain, u_andV, u_addI, u_subI, u_mulI, u_divI, u_modI, u_powI, u_cmpI, u_eqI, u_eqS, u_eqB, u_abs, u_intI, u_intB, u_newT, u_newF, u_isN, u_notN, wVar, List.set_cons_zero, List.set_cons_succ, List.getElem?_cons_zero, List.getElem?_cons_succ, List.length_cons, List.length_nil, u_lc, u_for, u_r1, u_r2, u_r3, u_num, u_notV, u_yes, u_w0, u_w1, u_dput, u_get2, u_dget, u_prop, u_fld, u_setF, u_make, u_makeS, u_met, u_calO, u_orT, u_tupIt, u_dc, u_maxDd, u_dnew, u_tupi, ix_p0, ix_p1, wSl, woNone, woSome]))
      refine ⟨by decide, _, _, _, false, rfl, by simp, any6 (by simp [xtab]) (by simp [xtab]) (by simp [xtab]) (by simp [xtab]) (by simp [xtab]) (by simp [xtab]), ?_⟩
      ((try dsimp only); rw [u_seq]; (try simp only [u_asg, u_gN, u_ret, u_retN, u_skip, u_expr, u_ifs, u_c, u_op, u_neg, u_test, u_and, u_or, u_not, u_if, u_nil, u_cons, u_tup, u_lst, u_callP, u_call, u_b, u_chain, u_andV, u_addI, u_subI, u_mulI, u_divI, u_modI, u_powI, u_cmpI, u_eqI, u_eqS, u_eqB, u_abs, u_intI, u_intB, u_newT, u_newF, u_isN, u_notN, wVar, List.set_cons_zero, List.set_cons_succ, List.getElem?_cons_zero, List.getElem?_cons_succ, List.length_cons, List.length_nil, u_lc, u_for, u_r1, u_r2, u_r3, u_num, u_notV, u_yes, u_w0, u_w1, u_dput, u_get2, u_dget, u_prop, u_fld, u_setF, u_make, u_makeS, u_met, u_calO, u_orT, u_tupIt, u_dc, u_maxDd, u_dnew, u_tupi, ix_p0, ix_p1, wSl, woNone, woSome]))
      refine ⟨false, rfl, ?_⟩
      rw [if_neg (by decide)]
      refine ⟨by decide, _, _, _, false, rfl, by simp, any6 (by simp [xtab]) (by simp [xtab]) (by simp [xtab]) (by simp [xtab]) (by simp [xtab]) (by simp [xtab]), ?_⟩
      ((try dsimp only); rw [u_seq]; (try simp only [u_asg, u_gN, u_ret, u_retN, u_skip, u_expr, u_ifs, u_c, u_op, u_neg, u_test, u_and, u_or, u_not, u_if, u_nil, u_cons, u_tup, u_lst, u_callP, u_call, u_b, u_chain, u_andV, u_addI, u_subI, u_mulI, u_divI, u_modI, u_powI, u_cmpI, u_eqI, u_eqS, u_eqB, u_abs, u_intI, u_intB, u_newT, u_newF, u_isN, u_notN, wVar, List.set_cons_zero, List.set_cons_succ, List.getElem?_cons_zero, List.getElem?_cons_succ, List.length_cons, List.length_nil, u_lc, u_for, u_r1, u_r2, u_r3, u_num, u_notV, u_yes, u_w0, u_w1, u_dput, u_get2, u_dget, u_prop, u_fld, u_setF, u_make, u_makeS, u_met, u_calO, u_orT, u_tupIt, u_dc, u_maxDd, u_dnew, u_tupi, ix_p0, ix_p1, wSl, woNone, woSome]))
      simp only [wTruth, wMethT, u_asg, u_gN, u_ret, u_retN, u_skip, u_expr, u_ifs, u_c, u_op, u_neg, u_test, u_and, u_or, u_not, u_if, u_nil, u_cons, u_tup, u_lst, u_callP, u_call, u_b, u_chain, u_andV, u_addI, u_subI, u_mulI, u_divI, u_modI, u_powI, u_cmpI, u_eqI, u_eqS, u_eqB, u_abs, u_intI, u_intB, u_newT, u_newF, u_isN, u_notN, wVar, List.set_cons_zero, List.set_cons_succ, List.getElem?_cons_zero, List.getElem?_cons_succ, List.length_cons, List.length_nil, u_lc, u_for, u_r1, u_r2, u_r3, u_num, u_notV, u_yes, u_w0, u_w1, u_dput, u_get2, u_dget, u_prop, u_fld, u_setF, u_make, u_makeS, u_met, u_calO, u_orT, u_tupIt, u_dc, u_maxDd, u_dnew, u_tupi, ix_p0, ix_p1, wSl, woNone, woSome]
      refine ⟨false, rfl, ?_⟩
      try dsimp only
      rw [if_neg (by decide)]
      refine ⟨by decide, _, _, _, false, rfl, by simp, any3 (by simp [xtab]) (by simp [xtab]) (by simp [xtab]), ?_⟩
      dsimp only
      rw [if_neg (by decide)]
      refine ⟨⟨_, lst_ref e2⟩, [false, false, true, false, false, false], true, lst_ref e2, rfl, ?_⟩
      dsimp only
      rw [u_eqI, show (!decide (((([false, false, true, false, false, false] : List Bool).countP fun b => b == true : Nat) : Int) = 1)) = false from by decide]
      dsimp only
      rw [if_neg (by decide)]
      ((try dsimp only); rw [u_seq]; (try simp only [u_asg, u_gN, u_ret, u_retN, u_skip, u_expr, u_ifs, u_c, u_op, u_neg, u_test, u_and, u_or, u_not, u_if, u_nil, u_cons, u_tup, u_lst, u_callP, u_call, u_b, u_chain, u_andV, u_addI, u_subI, u_mulI, u_divI, u_modI, u_powI, u_cmpI, u_eqI, u_eqS, u_eqB, u_abs, u_intI, u_intB, u_newT, u_newF, u_isN, u_notN, wVar, List.set_cons_zero, List.set_cons_succ, List.getElem?_cons_zero, List.getElem?_cons_succ, List.length_cons, List.length_nil, u_lc, u_for, u_r1, u_r2, u_r3, u_num, u_notV, u_yes, u_w0, u_w1, u_dput, u_get2, u_dget, u_prop, u_fld, u_setF, u_make, u_makeS, u_met, u_calO, u_orT, u_tupIt, u_dc, u_maxDd, u_dnew, u_tupi, ix_p0, ix_p1, wSl, woNone, woSome]))
      simp only [wMethT, u_asg, u_gN, u_ret, u_retN, u_skip, u_expr, u_ifs, u_c, u_op, u_neg, u_test, u_and, u_or, u_not, u_if, u_nil, u_cons, u_tup, u_lst, u_callP, u_call, u_b, u_chain, u_andV, u_addI, u_subI, u_mulI, u_divI, u_modI, u_powI, u_cmpI, u_eqI, u_eqS, u_eqB, u_abs, u_intI, u_intB, u_newT, u_newF, u_isN, u_notN, wVar, List.set_cons_zero, List.set_cons_succ, List.getElem?_cons_zero, List.getElem?_cons_succ, List.length_cons, List.length_nil, u_lc, u_for, u_r1, u_r2, u_r3, u_num, u_notV, u_yes, u_w0, u_w1, u_dput, u_get2, u_dget, u_prop, u_fld, u_setF, u_make, u_makeS, u_met, u_calO, u_orT, u_tupIt, u_dc, u_maxDd, u_dnew, u_tupi, ix_p0, ix_p1, wSl, woNone, woSome]
      refine ⟨⟨_, lst_ref e2⟩, [false, false, true, false, false, false], true, 2, lst_ref e2, rfl, rfl, ?_⟩
      ((try dsimp only); rw [u_seq]; (try simp only [u_asg, u_gN, u_ret, u_retN, u_skip, u_expr, u_ifs, u_c, u_op, u_neg, u_test, u_and, u_or, u_not, u_if, u_nil, u_cons, u_tup, u_lst, u_callP, u_call, u_b, u_chain, u_andV, u_addI, u_subI, u_mulI, u_divI, u_modI, u_powI, u_cmpI, u_eqI, u_eqS, u_eqB, u_abs, u_intI, u_intB, u_newT, u_newF, u_isN, u_notN, wVar, List.set_cons_zero, List.set_cons_succ, List.getElem?_cons_zero, List.getElem?_cons_succ, List.length_cons, List.length_nil, u_lc, u_for, u_r1, u_r2, u_r3, u_num, u_notV, u_yes, u_w0, u_w1, u_dput, u_get2, u_dget, u_prop, u_fld, u_setF, u_make, u_makeS, u_met, u_calO, u_orT, u_tupIt, u_dc, u_maxDd, u_dnew, u_tupi, ix_p0, ix_p1, wSl, woNone, woSome]))
      refine isX_go (b := true) (by simp [xtab]) ?_
      rw [show (decide (((2 : Nat) : Int) < 4)) = true from by decide, u_eqB]
      dsimp only
      rw [if_neg (by decide)]
      refine isX_go (b := false) (by simp [xtab]) ?_
      rw [show (decide (3 < ((2 : Nat) : Int))) = false from by decide, u_eqB]
      dsimp only
      rw [if_neg (by decide)]
      exact ⟨trivial, _, _, _, _, rfl, hx0, fin_sub sb q⟩
    | con v u =>
      refine ⟨by simp [errs], ?_⟩
      dsimp only [List.replicate, List.set_cons_succ, List.set_cons_zero]
      rw [u_seq]
      simp only [u_asg, u_gN, u_ret, u_retN, u_skip, u_expr, u_ifs, u_c, u_op, u_neg, u_test, u_and, u_or, u_not, u_if, u_nil, u_cons, u_tup, u_lst, u_callP, u_call, u_b, u_chain, u_andV, u_addI, u_subI, u_mulI, u_divI, u_modI, u_powI, u_cmpI, u_eqI, u_eqS, u_eqB, u_abs, u_intI, u_intB, u_newT, u_newF, u_isN, u_notN, wVar, List.set_cons_zero, List.set_cons_succ, List.getElem?_cons_zero, List.getElem?_cons_succ, List.length_cons, List.length_nil, u_lc, u_for, u_r1, u_r2, u_r3, u_num, u_notV, u_yes, u_w0, u_w1, u_dput, u_get2, u_dget, u_prop, u_fld, u_setF, u_make, u_makeS, u_met, u_calO, u_orT, u_tupIt, u_dc, u_maxDd, u_dnew, u_tupi, ix_p0, ix_p1, wSl, woNone, woSome]
      rw [isN_xob]
      simp only [Bool.false_eq_true, if_false]
      ((try dsimp only); rw [u_seq]; (try simp only [u_asg, u_gN, u_ret, u_retN, u_skip, u_expr, u_ifs, u_c, u_op, u_neg, u_test, u_and, u_or, u_not, u_if, u_nil, u_cons, u_tup, u_lst, u_callP, u_call, u_b, u_chain, u_andV, u_addI, u_subI, u_mulI, u_divI, u_modI, u_powI, u_cmpI, u_eqI, u_eqS, u_eqB, u_abs, u_intI, u_intB, u_newT, u_newF, u_isN, u_notN, wVar, List.set_cons_zero, List.set_cons_succ, List.getElem?_cons_zero, List.getElem?_cons_succ, List.length_cons, List.length_nil, u_lc, u_for, u_r1, u_r2, u_r3, u_num, u_notV, u_yes, u_w0, u_w1, u_dput, u_get2, u_dget, u_prop, u_fld, u_setF, u_make, u_makeS, u_met, u_calO, u_orT, u_tupIt, u_dc, u_maxDd, u_dnew, u_tupi, ix_p0, ix_p1, wSl, woNone, woSome]))
      refine isX_go (b := false) (by simp [xtab]) (isX_go (b := false) (by simp [xtab]) (isX_go (b := false) (by simp [xtab]) ?_))
      refine ⟨szl (by decide), fun p1 hp1 => ?_⟩
      ((try dsimp only); rw [u_seq]; (try simp only [u_asg, u_gN, u_ret, u_retN, u_skip, u_expr, u_ifs, u_c, u_op, u_neg, u_test, u_and, u_or, u_not, u_if, u_nil, u_cons, u_tup, u_lst, u_callP, u_call, u_b, u_chain, u_andV, u_addI, u_subI, u_mulI, u_divI, u_modI, u_powI, u_cmpI, u_eqI, u_eqS, u_eqB, u_abs, u_intI, u_intB, u_newT, u_newF, u_isN, u_notN, wVar, List.set_cons_zero, List.set_cons_succ, List.getElem?_cons_zero, List.getElem?_cons_succ, List.length_cons, List.length_nil, u_lc, u_for, u_r1, u_r2, u_r3, u_num, u_notV, u_yes, u_w0, u_w1, u_dput, u_get2, u_dget, u_prop, u_fld, u_setF, u_make, u_makeS, u_met, u_calO, u_orT, u_tupIt, u_dc, u_maxDd, u_dnew, u_tupi, ix_p0, ix_p1, wSl, woNone, woSome]))
      refine isX_go (b := true) (by simp [xtab]) (isX_go (b := false) (by simp [xtab]) ?_)
      refine ⟨szl (by decide), ?_⟩
      refine ⟨_, _, lst_ref up_same, rfl, szl (by decide), fun p2 hp2 => ?_⟩
      ((try dsimp only); rw [u_seq]; (try simp only [u_asg, u_gN, u_ret, u_retN, u_skip, u_expr, u_ifs, u_c, u_op, u_neg, u_test, u_and, u_or, u_not, u_if, u_nil, u_cons, u_tup, u_lst, u_callP, u_call, u_b, u_chain, u_andV, u_addI, u_subI, u_mulI, u_divI, u_modI, u_powI, u_cmpI, u_eqI, u_eqS, u_eqB, u_abs, u_intI, u_intB, u_newT, u_newF, u_isN, u_notN, wVar, List.set_cons_zero, List.set_cons_succ, List.getElem?_cons_zero, List.getElem?_cons_succ, List.length_cons, List.length_nil, u_lc, u_for, u_r1, u_r2, u_r3, u_num, u_notV, u_yes, u_w0, u_w1, u_dput, u_get2, u_dget, u_prop, u_fld, u_setF, u_make, u_makeS, u_met, u_calO, u_orT, u_tupIt, u_dc, u_maxDd, u_dnew, u_tupi, ix_p0, ix_p1, wSl, woNone, woSome]))
      simp only [wMethT, u_asg, u_gN, u_ret, u_retN, u_skip, u_expr, u_ifs, u_c, u_op, u_neg, u_test, u_and, u_or, u_not, u_if, u_nil, u_cons, u_tup, u_lst, u_callP, u_call, u_b, u_chain, u_andV, u_addI, u_subI, u_mulI, u_divI, u_modI, u_powI, u_cmpI, u_eqI, u_eqS, u_eqB, u_abs, u_intI, u_intB, u_newT, u_newF, u_isN, u_notN, wVar, List.set_cons_zero, List.set_cons_succ, List.getElem?_cons_zero, List.getElem?_cons_succ, List.length_cons, List.length_nil, u_lc, u_for, u_r1, u_r2, u_r3, u_num, u_notV, u_yes, u_w0, u_w1, u_dput, u_get2, u_dget, u_prop, u_fld, u_setF, u_make, u_makeS, u_met, u_calO, u_orT, u_tupIt, u_dc, u_maxDd, u_dnew, u_tupi, ix_p0, ix_p1, wSl, woNone, woSome]
      refine ⟨⟨_, lst_ref up_same⟩, isX_go (b := false) (by simp [xtab]) ?_⟩
      refine ⟨p2, _, _, rfl, rfl, up_same, lt_sz (by decide), ?_⟩
      rw [up_up]
      have e2 : (up (up h' p1 (AO.lst [D.bl false, D.bl false, D.bl false])) p2 (AO.lst ([D.bl false, D.bl false, D.bl false] ++ [D.bl true, D.bl false] ++ [D.bl false]))) p2 = some (AO.lst (([false, false, false, true, false, false] : List Bool).map D.bl)) := up_same
      have sb : Sub h' (up (up h' p1 (AO.lst [D.bl false, D.bl false, D.bl false])) p2 (AO.lst ([D.bl false, D.bl false, D.bl false] ++ [D.bl true, D.bl false] ++ [D.bl false]))) := (sub_up hp1).trans (sub_up hp2)
      dsimp only [List.cons_append, List.nil_append] at e2 sb ⊢
      generalize (up (up h' p1 (AO.lst [D.bl false, D.bl false, D.bl false])) p2 (AO.lst [D.bl false, D.bl false, D.bl false, D.bl true, D.bl false, D.bl false])) = g at e2 sb ⊢
      clear hp1 hp2
      ((try dsimp only); rw [u_seq]; (try simp only [u_asg, u_gN, u_ret, u_retN, u_skip, u_expr, u_ifs, u_c, u_op, u_neg, u_test, u_and, u_or, u_not, u_if, u_nil, u_cons, u_tup, u_lst, u_callP, u_call, u_b, u_chain, u_andV, u_addI, u_subI, u_mulI, u_divI, u_modI, u_powI, u_cmpI, u_eqI, u_eqS, u_eqB, u_abs, u_intI, u_intB, u_newT, u_newF, u_isN, u_notN, wVar, List.set_cons_zero, List.set_cons_succ, List.getElem?_cons_zero, List.getElem?_cons_succ, List.length_cons, List.length_nil, u_lc, u_for, u_r1, u_r2, u_r3, u_num, u_notV, u_yes, u_w0, u_w1, u_dput, u_get2, u_dget, u_prop, u_fld, u_setF, u_make, u_makeS, u_met, u_calO, u_orT, u_tupIt, u_dc, u_maxDd, u_dnew, u_tupi, ix_p0, ix_p1, wSl, woNone, woSome]))
      refine ⟨by decide, _, _, _, false, rfl, by simp, any6 (by simp [xtab]) (by simp [xtab]) (by simp [xtab]) (by simp [xtab]) (by simp [xtab]) (by simp [xtab]), ?_⟩
      ((try dsimp only); rw [u_seq]; (try simp only [u_asg, u_gN, u_ret, u_retN, u_skip, u_expr, u_ifs, u_c, u_op, u_neg, u_test, u_and, u_or, u_not, u_if, u_nil, u_cons, u_tup, u_lst, u_callP, u_call, u_b, u_chain, u_andV, u_addI, u_subI, u_mulI, u_divI, u_modI, u_powI, u_cmpI, u_eqI, u_eqS, u_eqB, u_abs, u_intI, u_intB, u_newT, u_newF, u_isN, u_notN, wVar, List.set_cons_zero, List.set_cons_succ, List.getElem?_cons_zero, List.getElem?_cons_succ, List.length_cons, List.length_nil, u_lc, u_for, u_r1, u_r2, u_r3, u_num, u_notV, u_yes, u_w0, u_w1, u_dput, u_get2, u_dget, u_prop, u_fld, u_setF, u_make, u_makeS, u_met, u_calO, u_orT, u_tupIt, u_dc, u_maxDd, u_dnew, u_tupi, ix_p0, ix_p1, wSl, woNone, woSome]))
      refine ⟨false, rfl, ?_⟩
      rw [if_neg (by decide)]
      refine ⟨by decide, _, _, _, false, rfl, by simp, any6 (by simp [xtab]) (by simp [xtab]) (by simp [xtab]) (by simp [xtab]) (by simp [xtab]) (by simp [xtab]), ?_⟩
      ((try dsimp only); rw [u_seq]; (try simp only [u_asg, u_gN, u_ret, u_retN, u_skip, u_expr, u_ifs, u_c, u_op, u_neg, u_test, u_and, u_or, u_not, u_if, u_nil, u_cons, u_tup, u_lst, u_callP, u_call, u_b, u_chain, u_andV, u_addI, u_subI, u_mulI, u_divI, u_modI, u_powI, u_cmpI, u_eqI, u_eqS, u_eqB, u_abs, u_intI, u_intB, u_newT, u_newF, u_isN, u_notN, wVar, List.set_cons_zero, List.set_cons_succ, List.getElem?_cons_zero, List.getElem?_cons_succ, List.length_cons, List.length_nil, u_lc, u_for, u_r1, u_r2, u_r3, u_num, u_notV, u_yes, u_w0, u_w1, u_dput, u_get2, u_dget, u_prop, u_fld, u_setF, u_make, u_makeS, u_met, u_calO, u_orT, u_tupIt, u_dc, u_maxDd, u_dnew, u_tupi, ix_p0, ix_p1, wSl, woNone, woSome]))
      simp only [wTruth, wMethT, u_asg, u_gN, u_ret, u_retN, u_skip, u_expr, u_ifs, u_c, u_op, u_neg, u_test, u_and, u_or, u_not, u_if, u_nil, u_cons, u_tup, u_lst, u_callP, u_call, u_b, u_chain, u_andV, u_addI, u_subI, u_mulI, u_divI, u_modI, u_powI, u_cmpI, u_eqI, u_eqS, u_eqB, u_abs, u_intI, u_intB, u_newT, u_newF, u_isN, u_notN, wVar, List.set_cons_zero, List.set_cons_succ, List.getElem?_cons_zero, List.getElem?_cons_succ, List.length_cons, List.length_nil, u_lc, u_for, u_r1, u_r2, u_r3, u_num, u_notV, u_yes, u_w0, u_w1, u_dput, u_get2, u_dget, u_prop, u_fld, u_setF, u_make, u_makeS, u_met, u_calO, u_orT, u_tupIt, u_dc, u_maxDd, u_dnew, u_tupi, ix_p0, ix_p1, wSl, woNone, woSome]
      refine ⟨false, rfl, ?_⟩
      try dsimp only
      rw [if_neg (by decide)]
      refine ⟨by decide, _, _, _, false, rfl, by simp, any3 (by simp [xtab]) (by simp [xtab]) (by simp [xtab]), ?_⟩
      dsimp only
      rw [if_neg (by decide)]
      refine ⟨⟨_, lst_ref e2⟩, [false, false, false, true, false, false], true, lst_ref e2, rfl, ?_⟩
      dsimp only
      rw [u_eqI, show (!decide (((([false, false, false, true, false, false] : List Bool).countP fun b => b == true : Nat) : Int) = 1)) = false from by decide]
      dsimp only
      rw [if_neg (by decide)]
      ((try dsimp only); rw [u_seq]; (try simp only [u_asg, u_gN, u_ret, u_retN, u_skip, u_expr, u_ifs, u_c, u_op, u_neg, u_test, u_and, u_or, u_not, u_if, u_nil, u_cons, u_tup, u_lst, u_callP, u_call, u_b, u_chain, u_andV, u_addI, u_subI, u_mulI, u_divI, u_modI, u_powI, u_cmpI, u_eqI, u_eqS, u_eqB, u_abs, u_intI, u_intB, u_newT, u_newF, u_isN, u_notN, wVar, List.set_cons_zero, List.set_cons_succ, List.getElem?_cons_zero, List.getElem?_cons_succ, List.length_cons, List.length_nil, u_lc, u_for, u_r1, u_r2, u_r3, u_num, u_notV, u_yes, u_w0, u_w1, u_dput, u_get2, u_dget, u_prop, u_fld, u_setF, u_make, u_makeS, u_met, u_calO, u_orT, u_tupIt, u_dc, u_maxDd, u_dnew, u_tupi, ix_p0, ix_p1, wSl, woNone, woSome]))
      simp only [wMethT, u_asg, u_gN, u_ret, u_retN, u_skip, u_expr, u_ifs, u_c, u_op, u_neg, u_test, u_and, u_or, u_not, u_if, u_nil, u_cons, u_tup, u_lst, u_callP, u_call, u_b, u_chain, u_andV, u_addI, u_subI, u_mulI, u_divI, u_modI, u_powI, u_cmpI, u_eqI, u_eqS, u_eqB, u_abs, u_intI, u_intB, u_newT, u_newF, u_isN, u_notN, wVar, List.set_cons_zero, List.set_cons_succ, List.getElem?_cons_zero, List.getElem?_cons_succ, List.length_cons, List.length_nil, u_lc, u_for, u_r1, u_r2, u_r3, u_num, u_notV, u_yes, u_w0, u_w1, u_dput, u_get2, u_dget, u_prop, u_fld, u_setF, u_make, u_makeS, u_met, u_calO, u_orT, u_tupIt, u_dc, u_maxDd, u_dnew, u_tupi, ix_p0, ix_p1, wSl, woNone, woSome]
      refine ⟨⟨_, lst_ref e2⟩, [false, false, false, true, false, false], true, 3, lst_ref e2, rfl, rfl, ?_⟩
      ((try dsimp only); rw [u_seq]; (try simp only [u_asg, u_gN, u_ret, u_retN, u_skip, u_expr, u_ifs, u_c, u_op, u_neg, u_test, u_and, u_or, u_not, u_if, u_nil, u_cons, u_tup, u_lst, u_callP, u_call, u_b, u_chain, u_andV, u_addI, u_subI, u_mulI, u_divI, u_modI, u_powI, u_cmpI, u_eqI, u_eqS, u_eqB, u_abs, u_intI, u_intB, u_newT, u_newF, u_isN, u_notN, wVar, List.set_cons_zero, List.set_cons_succ, List.getElem?_cons_zero, List.getElem?_cons_succ, List.length_cons, List.length_nil, u_lc, u_for, u_r1, u_r2, u_r3, u_num, u_notV, u_yes, u_w0, u_w1, u_dput, u_get2, u_dget, u_prop, u_fld, u_setF, u_make, u_makeS, u_met, u_calO, u_orT, u_tupIt, u_dc, u_maxDd, u_dnew, u_tupi, ix_p0, ix_p1, wSl, woNone, woSome]))
      refine isX_go (b := true) (by simp [xtab]) ?_
      rw [show (decide (((3 : Nat) : Int) < 4)) = true from by decide, u_eqB]
      dsimp only
      rw [if_neg (by decide)]
      refine isX_go (b := false) (by simp [xtab]) ?_
      rw [show (decide (3 < ((3 : Nat) : Int))) = false from by decide, u_eqB]
      dsimp only
      rw [if_neg (by decide)]
      exact ⟨trivial, _, _, _, _, rfl, hx0, fin_sub sb q⟩
    | nor v =>
      refine ⟨by simp [errs], ?_⟩
      dsimp only [List.replicate, List.set_cons_succ, List.set_cons_zero]
      rw [u_seq]
      simp only [u_asg, u_gN, u_ret, u_retN, u_skip, u_expr, u_ifs, u_c, u_op, u_neg, u_test, u_and, u_or, u_not, u_if, u_nil, u_cons, u_tup, u_lst, u_callP, u_call, u_b, u_chain, u_andV, u_addI, u_subI, u_mulI, u_divI, u_modI, u_powI, u_cmpI, u_eqI, u_eqS, u_eqB, u_abs, u_intI, u_intB, u_newT, u_newF, u_isN, u_notN, wVar, List.set_cons_zero, List.set_cons_succ, List.getElem?_cons_zero, List.getElem?_cons_succ, List.length_cons, List.length_nil, u_lc, u_for, u_r1, u_r2, u_r3, u_num, u_notV, u_yes, u_w0, u_w1, u_dput, u_get2, u_dget, u_prop, u_fld, u_setF, u_make, u_makeS, u_met, u_calO, u_orT, u_tupIt, u_dc, u_maxDd, u_dnew, u_tupi, ix_p0, ix_p1, wSl, woNone, woSome]
      rw [isN_xob]
      simp only [Bool.false_eq_true, if_false]
      ((try dsimp only); rw [u_seq]; (try simp only [u_asg, u_gN, u_ret, u_retN, u_skip, u_expr, u_ifs, u_c, u_op, u_neg, u_test, u_and, u_or, u_not, u_if, u_nil, u_cons, u_tup, u_lst, u_callP, u_call, u_b, u_chain, u_andV, u_addI, u_subI, u_mulI, u_divI, u_modI, u_powI, u_cmpI, u_eqI, u_eqS, u_eqB, u_abs, u_intI, u_intB, u_newT, u_newF, u_isN, u_notN, wVar, List.set_cons_zero, List.set_cons_succ, List.getElem?_cons_zero, List.getElem?_cons_succ, List.length_cons, List.length_nil, u_lc, u_for, u_r1, u_r2, u_r3, u_num, u_notV, u_yes, u_w0, u_w1, u_dput, u_get2, u_dget, u_prop, u_fld, u_setF, u_make, u_makeS, u_met, u_calO, u_orT, u_tupIt, u_dc, u_maxDd, u_dnew, u_tupi, ix_p0, ix_p1, wSl, woNone, woSome]))
      refine isX_go (b := false) (by simp [xtab]) (isX_go (b := false) (by simp [xtab]) (isX_go (b := false) (by simp [xtab]) ?_))
      refine ⟨szl (by decide), fun p1 hp1 => ?_⟩
      ((try dsimp only); rw [u_seq]; (try simp only [u_asg, u_gN, u_ret, u_retN, u_skip, u_expr, u_ifs, u_c, u_op, u_neg, u_test, u_and, u_or, u_not, u_if, u_nil, u_cons, u_tup, u_lst, u_callP, u_call, u_b, u_chain, u_andV, u_addI, u_subI, u_mulI, u_divI, u_modI, u_powI, u_cmpI, u_eqI, u_eqS, u_eqB, u_abs, u_intI, u_intB, u_newT, u_newF, u_isN, u_notN, wVar, List.set_cons_zero, List.set_cons_succ, List.getElem?_cons_zero, List.getElem?_cons_succ, List.length_cons, List.length_nil, u_lc, u_for, u_r1, u_r2, u_r3, u_num, u_notV, u_yes, u_w0, u_w1, u_dput, u_get2, u_dget, u_prop, u_fld, u_setF, u_make, u_makeS, u_met, u_calO, u_orT, u_tupIt, u_dc, u_maxDd, u_dnew, u_tupi, ix_p0, ix_p1, wSl, woNone, woSome]))
      refine isX_go (b := false) (by simp [xtab]) (isX_go (b := true) (by simp [xtab]) ?_)
      refine ⟨szl (by decide), ?_⟩
      refine ⟨_, _, lst_ref up_same, rfl, szl (by decide), fun p2 hp2 => ?_⟩
      ((try dsimp only); rw [u_seq]; (try simp only [u_asg, u_gN, u_ret, u_retN, u_skip, u_expr, u_ifs, u_c, u_op, u_neg, u_test, u_and, u_or, u_not, u_if, u_nil, u_cons, u_tup, u_lst, u_callP, u_call, u_b, u_chain, u_andV, u_addI, u_subI, u_mulI, u_divI, u_modI, u_powI, u_cmpI, u_eqI, u_eqS, u_eqB, u_abs, u_intI, u_intB, u_newT, u_newF, u_isN, u_notN, wVar, List.set_cons_zero, List.set_cons_succ, List.getElem?_cons_zero, List.getElem?_cons_succ, List.length_cons, List.length_nil, u_lc, u_for, u_r1, u_r2, u_r3, u_num, u_notV, u_yes, u_w0, u_w1, u_dput, u_get2, u_dget, u_prop, u_fld, u_setF, u_make, u_makeS, u_met, u_calO, u_orT, u_tupIt, u_dc, u_maxDd, u_dnew, u_tupi, ix_p0, ix_p1, wSl, woNone, woSome]))
      simp only [wMethT, u_asg, u_gN, u_ret, u_retN, u_skip, u_expr, u_ifs, u_c, u_op, u_neg, u_test, u_and, u_or, u_not, u_if, u_nil, u_cons, u_tup, u_lst, u_callP, u_call, u_b, u_chain, u_andV, u_addI, u_subI, u_mulI, u_divI, u_modI, u_powI, u_cmpI, u_eqI, u_eqS, u_eqB, u_abs, u_intI, u_intB, u_newT, u_newF, u_isN, u_notN, wVar, List.set_cons_zero, List.set_cons_succ, List.getElem?_cons_zero, List.getElem?_cons_succ, List.length_cons, List.length_nil, u_lc, u_for, u_r1, u_r2, u_r3, u_num, u_notV, u_yes, u_w0, u_w1, u_dput, u_get2, u_dget, u_prop, u_fld, u_setF, u_make, u_makeS, u_met, u_calO, u_orT, u_tupIt, u_dc, u_maxDd, u_dnew, u_tupi, ix_p0, ix_p1, wSl, woNone, woSome]
      refine ⟨⟨_, lst_ref up_same⟩, isX_go (b := false) (by simp [xtab]) ?_⟩
      refine ⟨p2, _, _, rfl, rfl, up_same, lt_sz (by decide), ?_⟩
      rw [up_up]
      have e2 : (up (up h' p1 (AO.lst [D.bl false, D.bl false, D.bl false])) p2 (AO.lst ([D.bl false, D.bl false, D.bl false] ++ [D.bl false, D.bl true] ++ [D.bl false]))) p2 = some (AO.lst (([false, false, false, false, true, false] : List Bool).map D.bl)) := up_same
      have sb : Sub h' (up (up h' p1 (AO.lst [D.bl false, D.bl false, D.bl false])) p2 (AO.lst ([D.bl false, D.bl false, D.bl false] ++ [D.bl false, D.bl true] ++ [D.bl false]))) := (sub_up hp1).trans (sub_up hp2)
      dsimp only [List.cons_append, List.nil_append] at e2 sb ⊢
      generalize (up (up h' p1 (AO.lst [D.bl false, D.bl false, D.bl false])) p2 (AO.lst [D.bl false, D.bl false, D.bl false, D.bl false, D.bl true, D.bl false])) = g at e2 sb ⊢
      clear hp1 hp2
      ((try dsimp only); rw [u_seq]; (try simp only [u_asg, u_gN, u_ret, u_retN, u_skip, u_expr, u_ifs, u_c, u_op, u_neg, u_test, u_and, u_or, u_not, u_if, u_nil, u_cons, u_tup, u_lst, u_callP, u_call, u_b, u_chain, u_andV, u_addI, u_subI, u_mulI, u_divI, u_modI, u_powI, u_cmpI, u_eqI, u_eqS, u_eqB, u_abs, u_intI, u_intB, u_newT, u_newF, u_isN, u_notN, wVar, List.set_cons_zero, List.set_cons_succ, List.getElem?_cons_zero, List.getElem?_cons_succ, List.length_cons, List.length_nil, u_lc, u_for, u_r1, u_r2, u_r3, u_num, u_notV, u_yes, u_w0, u_w1, u_dput, u_get2, u_dget, u_prop, u_fld, u_setF, u_make, u_makeS, u_met, u_calO, u_orT, u_tupIt, u_dc, u_maxDd, u_dnew, u_tupi, ix_p0, ix_p1, wSl, woNone, woSome]))
      refine ⟨by decide, _, _, _, false, rfl, by simp, any6 (by simp [xtab]) (by simp [xtab]) (by simp [xtab]) (by simp [xtab]) (by simp [xtab]) (by simp [xtab]), ?_⟩
      ((try dsimp only); rw [u_seq]; (try simp only [u_asg, u_gN, u_ret, u_retN, u_skip, u_expr, u_ifs, u_c, u_op, u_neg, u_test, u_and, u_or, u_not, u_if, u_nil, u_cons, u_tup, u_lst, u_callP, u_call, u_b, u_chain, u_andV, u_addI, u_subI, u_mulI, u_divI, u_modI, u_powI, u_cmpI, u_eqI, u_eqS, u_eqB, u_abs, u_intI, u_intB, u_newT, u_newF, u_isN, u_notN, wVar, List.set_cons_zero, List.set_cons_succ, List.getElem?_cons_zero, List.getElem?_cons_succ, List.length_cons, List.length_nil, u_lc, u_for, u_r1, u_r2, u_r3, u_num, u_notV, u_yes, u_w0, u_w1, u_dput, u_get2, u_dget, u_prop, u_fld, u_setF, u_make, u_makeS, u_met, u_calO, u_orT, u_tupIt, u_dc, u_maxDd, u_dnew, u_tupi, ix_p0, ix_p1, wSl, woNone, woSome]))
      refine ⟨false, rfl, ?_⟩
      rw [if_neg (by decide)]
      refine ⟨by decide, _, _, _, false, rfl, by simp, any6 (by simp [xtab]) (by simp [xtab]) (by simp [xtab]) (by simp [xtab]) (by simp [xtab]) (by simp [xtab]), ?_⟩
      ((try dsimp only); rw [u_seq]; (try simp only [u_asg, u_gN, u_ret, u_retN, u_skip, u_expr, u_ifs, u_c, u_op, u_neg, u_test, u_and, u_or, u_not, u_if, u_nil, u_cons, u_tup, u_lst, u_callP, u_call, u_b, u_chain, u_andV, u_addI, u_subI, u_mulI, u_divI, u_modI, u_powI, u_cmpI, u_eqI, u_eqS, u_eqB, u_abs, u_intI, u_intB, u_newT, u_newF, u_isN, u_notN, wVar, List.set_cons_zero, List.set_cons_succ, List.getElem?_cons_zero, List.getElem?_cons_succ, List.length_cons, List.length_nil, u_lc, u_for, u_r1, u_r2, u_r3, u_num, u_notV, u_yes, u_w0, u_w1, u_dput, u_get2, u_dget, u_prop, u_fld, u_setF, u_make, u_makeS, u_met, u_calO, u_orT, u_tupIt, u_dc, u_maxDd, u_dnew, u_tupi, ix_p0, ix_p1, wSl, woNone, woSome]))
      simp only [wTruth, wMethT, u_asg, u_gN, u_ret, u_retN, u_skip, u_expr, u_ifs, u_c, u_op, u_neg, u_test, u_and, u_or, u_not, u_if, u_nil, u_cons, u_tup, u_lst, u_callP, u_call, u_b, u_chain, u_andV, u_addI, u_subI, u_mulI, u_divI, u_modI, u_powI, u_cmpI, u_eqI, u_eqS, u_eqB, u_abs, u_intI, u_intB, u_newT, u_newF, u_isN, u_notN, wVar, List.set_cons_zero, List.set_cons_succ, List.getElem?_cons_zero, List.getElem?_cons_succ, List.length_cons, List.length_nil, u_lc, u_for, u_r1, u_r2, u_r3, u_num, u_notV, u_yes, u_w0, u_w1, u_dput, u_get2, u_dget, u_prop, u_fld, u_setF, u_make, u_makeS, u_met, u_calO, u_orT, u_tupIt, u_dc, u_maxDd, u_dnew, u_tupi, ix_p0, ix_p1, wSl, woNone, woSome]
      refine ⟨false, rfl, ?_⟩
      try dsimp only
      rw [if_neg (by decide)]
      refine ⟨by decide, _, _, _, false, rfl, by simp, any3 (by simp [xtab]) (by simp [xtab]) (by simp [xtab]), ?_⟩
      dsimp only
      rw [if_neg (by decide)]
      refine ⟨⟨_, lst_ref e2⟩, [false, false, false, false, true, false], true, lst_ref e2, rfl, ?_⟩
      dsimp only
      rw [u_eqI, show (!decide (((([false, false, false, false, true, false] : List Bool).countP fun b => b == true : Nat) : Int) = 1)) = false from by decide]
      dsimp only
      rw [if_neg (by decide)]
      ((try dsimp only); rw [u_seq]; (try simp only [u_asg, u_gN, u_ret, u_retN, u_skip, u_expr, u_ifs, u_c, u_op, u_neg, u_test, u_and, u_or, u_not, u_if, u_nil, u_cons, u_tup, u_lst, u_callP, u_call, u_b, u_chain, u_andV, u_addI, u_subI, u_mulI, u_divI, u_modI, u_powI, u_cmpI, u_eqI, u_eqS, u_eqB, u_abs, u_intI, u_intB, u_newT, u_newF, u_isN, u_notN, wVar, List.set_cons_zero, List.set_cons_succ, List.getElem?_cons_zero, List.getElem?_cons_succ, List.length_cons, List.length_nil, u_lc, u_for, u_r1, u_r2, u_r3, u_num, u_notV, u_yes, u_w0, u_w1, u_dput, u_get2, u_dget, u_prop, u_fld, u_setF, u_make, u_makeS, u_met, u_calO, u_orT, u_tupIt, u_dc, u_maxDd, u_dnew, u_tupi, ix_p0, ix_p1, wSl, woNone, woSome]))
      simp only [wMethT, u_asg, u_gN, u_ret, u_retN, u_skip, u_expr, u_ifs, u_c, u_op, u_neg, u_test, u_and, u_or, u_not, u_if, u_nil, u_cons, u_tup, u_lst, u_callP, u_call, u_b, u_chain, u_andV, u_addI, u_subI, u_mulI, u_divI, u_modI, u_powI, u_cmpI, u_eqI, u_eqS, u_eqB, u_abs, u_intI, u_intB, u_newT, u_newF, u_isN, u_notN, wVar, List.set_cons_zero, List.set_cons_succ, List.getElem?_cons_zero, List.getElem?_cons_succ, List.length_cons, List.length_nil, u_lc, u_for, u_r1, u_r2, u_r3, u_num, u_notV, u_yes, u_w0, u_w1, u_dput, u_get2, u_dget, u_prop, u_fld, u_setF, u_make, u_makeS, u_met, u_calO, u_orT, u_tupIt, u_dc, u_maxDd, u_dnew, u_tupi, ix_p0, ix_p1, wSl, woNone, woSome]
      refine ⟨⟨_, lst_ref e2⟩, [false, false, false, false, true, false], true, 4, lst_ref e2, rfl, rfl, ?_⟩
      ((try dsimp only); rw [u_seq]; (try simp only [u_asg, u_gN, u_ret, u_retN, u_skip, u_expr, u_ifs, u_c, u_op, u_neg, u_test, u_and, u_or, u_not, u_if, u_nil, u_cons, u_tup, u_lst, u_callP, u_call, u_b, u_chain, u_andV, u_addI, u_subI, u_mulI, u_divI, u_modI, u_powI, u_cmpI, u_eqI, u_eqS, u_eqB, u_abs, u_intI, u_intB, u_newT, u_newF, u_isN, u_notN, wVar, List.set_cons_zero, List.set_cons_succ, List.getElem?_cons_zero, List.getElem?_cons_succ, List.length_cons, List.length_nil, u_lc, u_for, u_r1, u_r2, u_r3, u_num, u_notV, u_yes, u_w0, u_w1, u_dput, u_get2, u_dget, u_prop, u_fld, u_setF, u_make, u_makeS, u_met, u_calO, u_orT, u_tupIt, u_dc, u_maxDd, u_dnew, u_tupi, ix_p0, ix_p1, wSl, woNone, woSome]))
      refine isX_go (b := false) (by simp [xtab]) ?_
      rw [show (decide (((4 : Nat) : Int) < 4)) = false from by decide, u_eqB]
      dsimp only
      rw [if_neg (by decide)]
      refine isX_go (b := true) (by simp [xtab]) ?_
      rw [show (decide (3 < ((4 : Nat) : Int))) = true from by decide, u_eqB]
      dsimp only
      rw [if_neg (by decide)]
      exact ⟨trivial, _, _, _, _, rfl, hx0, fin_sub sb q⟩
    | und v =>
      refine ⟨by simp [errs], ?_⟩
      dsimp only [List.replicate, List.set_cons_succ, List.set_cons_zero]
      rw [u_seq]
      simp only [u_asg, u_gN, u_ret, u_retN, u_skip, u_expr, u_ifs, u_c, u_op, u_neg, u_test, u_and, u_or, u_not, u_if, u_nil, u_cons, u_tup, u_lst, u_callP, u_call, u_b, u_chain, u_andV, u_addI, u_subI, u_mulI, u_divI, u_modI, u_powI, u_cmpI, u_eqI, u_eqS, u_eqB, u_abs, u_intI, u_intB, u_newT, u_newF, u_isN, u_notN, wVar, List.set_cons_zero, List.set_cons_succ, List.getElem?_cons_zero, List.getElem?_cons_succ, List.length_cons, List.length_nil, u_lc, u_for, u_r1, u_r2, u_r3, u_num, u_notV, u_yes, u_w0, u_w1, u_dput, u_get2, u_dget, u_prop, u_fld, u_setF, u_make, u_makeS, u_met, u_calO, u_orT, u_tupIt, u_dc, u_maxDd, u_dnew, u_tupi, ix_p0, ix_p1, wSl, woNone, woSome]
      rw [isN_xob]
      simp only [Bool.false_eq_true, if_false]
      ((try dsimp only); rw [u_seq]; (try simp only [u_asg, u_gN, u_ret, u_retN, u_skip, u_expr, u_ifs, u_c, u_op, u_neg, u_test, u_and, u_or, u_not, u_if, u_nil, u_cons, u_tup, u_lst, u_callP, u_call, u_b, u_chain, u_andV, u_addI, u_subI, u_mulI, u_divI, u_modI, u_powI, u_cmpI, u_eqI, u_eqS, u_eqB, u_abs, u_intI, u_intB, u_newT, u_newF, u_isN, u_notN, wVar, List.set_cons_zero, List.set_cons_succ, List.getElem?_cons_zero, List.getElem?_cons_succ, List.length_cons, List.length_nil, u_lc, u_for, u_r1, u_r2, u_r3, u_num, u_notV, u_yes, u_w0, u_w1, u_dput, u_get2, u_dget, u_prop, u_fld, u_setF, u_make, u_makeS, u_met, u_calO, u_orT, u_tupIt, u_dc, u_maxDd, u_dnew, u_tupi, ix_p0, ix_p1, wSl, woNone, woSome]))
      refine isX_go (b := false) (by simp [xtab]) (isX_go (b := false) (by simp [xtab]) (isX_go (b := false) (by simp [xtab]) ?_))
      refine ⟨szl (by decide), fun p1 hp1 => ?_⟩
      ((try dsimp only); rw [u_seq]; (try simp only [u_asg, u_gN, u_ret, u_retN, u_skip, u_expr, u_ifs, u_c, u_op, u_neg, u_test, u_and, u_or, u_not, u_if, u_nil, u_cons, u_tup, u_lst, u_callP, u_call, u_b, u_chain, u_andV, u_addI, u_subI, u_mulI, u_divI, u_modI, u_powI, u_cmpI, u_eqI, u_eqS, u_eqB, u_abs, u_intI, u_intB, u_newT, u_newF, u_isN, u_notN, wVar, List.set_cons_zero, List.set_cons_succ, List.getElem?_cons_zero, List.getElem?_cons_succ, List.length_cons, List.length_nil, u_lc, u_for, u_r1, u_r2, u_r3, u_num, u_notV, u_yes, u_w0, u_w1, u_dput, u_get2, u_dget, u_prop, u_fld, u_setF, u_make, u_makeS, u_met, u_calO, u_orT, u_tupIt, u_dc, u_maxDd, u_dnew, u_tupi, ix_p0, ix_p1, wSl, woNone, woSome]))
      refine isX_go (b := false) (by simp [xtab]) (isX_go (b := false) (by simp [xtab]) ?_)
      refine ⟨szl (by decide), ?_⟩
      refine ⟨_, _, lst_ref up_same, rfl, szl (by decide), fun p2 hp2 => ?_⟩
      ((try dsimp only); rw [u_seq]; (try simp only [u_asg, u_gN, u_ret, u_retN, u_skip, u_expr, u_ifs, u_c, u_op, u_neg, u_test, u_and, u_or, u_not, u_if, u_nil, u_cons, u_tup, u_lst, u_callP, u_call, u_b, u_chain, u_andV, u_addI, u_subI, u_mulI, u_divI, u_modI, u_powI, u_cmpI, u_eqI, u_eqS, u_eqB, u_abs, u_intI, u_intB, u_newT, u_newF, u_isN, u_notN, wVar, List.set_cons_zero, List.set_cons_succ, List.getElem?_cons_zero, List.getElem?_cons_succ, List.length_cons, List.length_nil, u_lc, u_for, u_r1, u_r2, u_r3, u_num, u_notV, u_yes, u_w0, u_w1, u_dput, u_get2, u_dget, u_prop, u_fld, u_setF, u_make, u_makeS, u_met, u_calO, u_orT, u_tupIt, u_dc, u_maxDd, u_dnew, u_tupi, ix_p0, ix_p1, wSl, woNone, woSome]))
      simp only [wMethT, u_asg, u_gN, u_ret, u_retN, u_skip, u_expr, u_ifs, u_c, u_op, u_neg, u_test, u_and, u_or, u_not, u_if, u_nil, u_cons, u_tup, u_lst, u_callP, u_call, u_b, u_chain, u_andV, u_addI, u_subI, u_mulI, u_divI, u_modI, u_powI, u_cmpI, u_eqI, u_eqS, u_eqB, u_abs, u_intI, u_intB, u_newT, u_newF, u_isN, u_notN, wVar, List.set_cons_zero, List.set_cons_succ, List.getElem?_cons_zero, List.getElem?_cons_succ, List.length_cons, List.length_nil, u_lc, u_for, u_r1, u_r2, u_r3, u_num, u_notV, u_yes, u_w0, u_w1, u_dput, u_get2, u_dget, u_prop, u_fld, u_setF, u_make, u_makeS, u_met, u_calO, u_orT, u_tupIt, u_dc, u_maxDd, u_dnew, u_tupi, ix_p0, ix_p1, wSl, woNone, woSome]
      refine ⟨⟨_, lst_ref up_same⟩, isX_go (b := true) (by simp [xtab]) ?_⟩
      refine ⟨p2, _, _, rfl, rfl, up_same, lt_sz (by decide), ?_⟩
      rw [up_up]
      have e2 : (up (up h' p1 (AO.lst [D.bl false, D.bl false, D.bl false])) p2 (AO.lst ([D.bl false, D.bl false, D.bl false] ++ [D.bl false, D.bl false] ++ [D.bl true]))) p2 = some (AO.lst (([false, false, false, false, false, true] : List Bool).map D.bl)) := up_same
      have sb : Sub h' (up (up h' p1 (AO.lst [D.bl false, D.bl false, D.bl false])) p2 (AO.lst ([D.bl false, D.bl false, D.bl false] ++ [D.bl false, D.bl false] ++ [D.bl true]))) := (sub_up hp1).trans (sub_up hp2)
      dsimp only [List.cons_append, List.nil_append] at e2 sb ⊢
      generalize (up (up h' p1 (AO.lst [D.bl false, D.bl false, D.bl false])) p2 (AO.lst [D.bl false, D.bl false, D.bl false, D.bl false, D.bl false, D.bl true])) = g at e2 sb ⊢
      clear hp1 hp2
      ((try dsimp only); rw [u_seq]; (try simp only [u_asg, u_gN, u_ret, u_retN, u_skip, u_expr, u_ifs, u_c, u_op, u_neg, u_test, u_and, u_or, u_not, u_if, u_nil, u_cons, u_tup, u_lst, u_callP, u_call, u_b, u_chain, u_andV, u_addI, u_subI, u_mulI, u_divI, u_modI, u_powI, u_cmpI, u_eqI, u_eqS, u_eqB, u_abs, u_intI, u_intB, u_newT, u_newF, u_isN, u_notN, wVar, List.set_cons_zero, List.set_cons_succ, List.getElem?_cons_zero, List.getElem?_cons_succ, List.length_cons, List.length_nil, u_lc, u_for, u_r1, u_r2, u_r3, u_num, u_notV, u_yes, u_w0, u_w1, u_dput, u_get2, u_dget, u_prop, u_fld, u_setF, u_make, u_makeS, u_met, u_calO, u_orT, u_tupIt, u_dc, u_maxDd, u_dnew, u_tupi, ix_p0, ix_p1, wSl, woNone, woSome]))
      refine ⟨by decide, _, _, _, false, rfl, by simp, any6 (by simp [xtab]) (by simp [xtab]) (by simp [xtab]) (by simp [xtab]) (by simp [xtab]) (by simp [xtab]), ?_⟩
      ((try dsimp only); rw [u_seq]; (try simp only [u_asg, u_gN, u_ret, u_retN, u_skip, u_expr, u_ifs, u_c, u_op, u_neg, u_test, u_and, u_or, u_not, u_if, u_nil, u_cons, u_tup, u_lst, u_callP, u_call, u_b, u_chain, u_andV, u_addI, u_subI, u_mulI, u_divI, u_modI, u_powI, u_cmpI, u_eqI, u_eqS, u_eqB, u_abs, u_intI, u_intB, u_newT, u_newF, u_isN, u_notN, wVar, List.set_cons_zero, List.set_cons_succ, List.getElem?_cons_zero, List.getElem?_cons_succ, List.length_cons, List.length_nil, u_lc, u_for, u_r1, u_r2, u_r3, u_num, u_notV, u_yes, u_w0, u_w1, u_dput, u_get2, u_dget, u_prop, u_fld, u_setF, u_make, u_makeS, u_met, u_calO, u_orT, u_tupIt, u_dc, u_maxDd, u_dnew, u_tupi, ix_p0, ix_p1, wSl, woNone, woSome]))
      refine ⟨false, rfl, ?_⟩
      rw [if_neg (by decide)]
      refine ⟨by decide, _, _, _, false, rfl, by simp, any6 (by simp [xtab]) (by simp [xtab]) (by simp [xtab]) (by simp [xtab]) (by simp [xtab]) (by simp [xtab]), ?_⟩
      ((try dsimp only); rw [u_seq]; (try simp only [u_asg, u_gN, u_ret, u_retN, u_skip, u_expr, u_ifs, u_c, u_op, u_neg, u_test, u_and, u_or, u_not, u_if, u_nil, u_cons, u_tup, u_lst, u_callP, u_call, u_b, u_chain, u_andV, u_addI, u_subI, u_mulI, u_divI, u_modI, u_powI, u_cmpI, u_eqI, u_eqS, u_eqB, u_abs, u_intI, u_intB, u_newT, u_newF, u_isN, u_notN, wVar, List.set_cons_zero, List.set_cons_succ, List.getElem?_cons_zero, List.getElem?_cons_succ, List.length_cons, List.length_nil, u_lc, u_for, u_r1, u_r2, u_r3, u_num, u_notV, u_yes, u_w0, u_w1, u_dput, u_get2, u_dget, u_prop, u_fld, u_setF, u_make, u_makeS, u_met, u_calO, u_orT, u_tupIt, u_dc, u_maxDd, u_dnew, u_tupi, ix_p0, ix_p1, wSl, woNone, woSome]))
      simp only [wTruth, wMethT, u_asg, u_gN, u_ret, u_retN, u_skip, u_expr, u_ifs, u_c, u_op, u_neg, u_test, u_and, u_or, u_not, u_if, u_nil, u_cons, u_tup, u_lst, u_callP, u_call, u_b, u_chain, u_andV, u_addI, u_subI, u_mulI, u_divI, u_modI, u_powI, u_cmpI, u_eqI, u_eqS, u_eqB, u_abs, u_intI, u_intB, u_newT, u_newF, u_isN, u_notN, wVar, List.set_cons_zero, List.set_cons_succ, List.getElem?_cons_zero, List.getElem?_cons_succ, List.length_cons, List.length_nil, u_lc, u_for, u_r1, u_r2, u_r3, u_num, u_notV, u_yes, u_w0, u_w1, u_dput, u_get2, u_dget, u_prop, u_fld, u_setF, u_make, u_makeS, u_met, u_calO, u_orT, u_tupIt, u_dc, u_maxDd, u_dnew, u_tupi, ix_p0, ix_p1, wSl, woNone, woSome]
      refine ⟨false, rfl, ?_⟩
      try dsimp only
      rw [if_neg (by decide)]
      refine ⟨by decide, _, _, _, false, rfl, by simp, any3 (by simp [xtab]) (by simp [xtab]) (by simp [xtab]), ?_⟩
      dsimp only
      rw [if_neg (by decide)]
      refine ⟨⟨_, lst_ref e2⟩, [false, false, false, false, false, true], true, lst_ref e2, rfl, ?_⟩
      dsimp only
      rw [u_eqI, show (!decide (((([false, false, false, false, false, true] : List Bool).countP fun b => b == true : Nat) : Int) = 1)) = false from by decide]
      dsimp only
      rw [if_neg (by decide)]
      ((try dsimp only); rw [u_seq]; (try simp only [u_asg, u_gN, u_ret, u_retN, u_skip, u_expr, u_ifs, u_c, u_op, u_neg, u_test, u_and, u_or, u_not, u_if, u_nil, u_cons, u_tup, u_lst, u_callP, u_call, u_b, u_chain, u_andV, u_addI, u_subI, u_mulI, u_divI, u_modI, u_powI, u_cmpI, u_eqI, u_eqS, u_eqB, u_abs, u_intI, u_intB, u_newT, u_newF, u_isN, u_notN, wVar, List.set_cons_zero, List.set_cons_succ, List.getElem?_cons_zero, List.getElem?_cons_succ, List.length_cons, List.length_nil, u_lc, u_for, u_r1, u_r2, u_r3, u_num, u_notV, u_yes, u_w0, u_w1, u_dput, u_get2, u_dget, u_prop, u_fld, u_setF, u_make, u_makeS, u_met, u_calO, u_orT, u_tupIt, u_dc, u_maxDd, u_dnew, u_tupi, ix_p0, ix_p1, wSl, woNone, woSome]))
      simp only [wMethT, u_asg, u_gN, u_ret, u_retN, u_skip, u_expr, u_ifs, u_c, u_op, u_neg, u_test, u_and, u_or, u_not, u_if, u_nil, u_cons, u_tup, u_lst, u_callP, u_call, u_b, u_chain, u_andV, u_addI, u_subI, u_mulI, u_divI, u_modI, u_powI, u_cmpI, u_eqI, u_eqS, u_eqB, u_abs, u_intI, u_intB, u_newT, u_newF, u_isN, u_notN, wVar, List.set_cons_zero, List.set_cons_succ, List.getElem?_cons_zero, List.getElem?_cons_succ, List.length_cons, List.length_nil, u_lc, u_for, u_r1, u_r2, u_r3, u_num, u_notV, u_yes, u_w0, u_w1, u_dput, u_get2, u_dget, u_prop, u_fld, u_setF, u_make, u_makeS, u_met, u_calO, u_orT, u_tupIt, u_dc, u_maxDd, u_dnew, u_tupi, ix_p0, ix_p1, wSl, woNone, woSome]
      refine ⟨⟨_, lst_ref e2⟩, [false, false, false, false, false, true], true, 5, lst_ref e2, rfl, rfl, ?_⟩
      ((try dsimp only); rw [u_seq]; (try simp only [u_asg, u_gN, u_ret, u_retN, u_skip, u_expr, u_ifs, u_c, u_op, u_neg, u_test, u_and, u_or, u_not, u_if, u_nil, u_cons, u_tup, u_lst, u_callP, u_call, u_b, u_chain, u_andV, u_addI, u_subI, u_mulI, u_divI, u_modI, u_powI, u_cmpI, u_eqI, u_eqS, u_eqB, u_abs, u_intI, u_intB, u_newT, u_newF, u_isN, u_notN, wVar, List.set_cons_zero, List.set_cons_succ, List.getElem?_cons_zero, List.getElem?_cons_succ, List.length_cons, List.length_nil, u_lc, u_for, u_r1, u_r2, u_r3, u_num, u_notV, u_yes, u_w0, u_w1, u_dput, u_get2, u_dget, u_prop, u_fld, u_setF, u_make, u_makeS, u_met, u_calO, u_orT, u_tupIt, u_dc, u_maxDd, u_dnew, u_tupi, ix_p0, ix_p1, wSl, woNone, woSome]))
      refine isX_go (b := false) (by simp [xtab]) ?_
      rw [show (decide (((5 : Nat) : Int) < 4)) = false from by decide, u_eqB]
      dsimp only
      rw [if_neg (by decide)]
      refine isX_go (b := true) (by simp [xtab]) ?_
      rw [show (decide (3 < ((5 : Nat) : Int))) = true from by decide, u_eqB]
      dsimp only
      rw [if_neg (by decide)]
      exact ⟨trivial, _, _, _, _, rfl, hx0, fin_sub sb q⟩
end FM
namespace PK
open PySem PySem.Spec L2 C8 DL
abbrev N_is_integer : List Str := ["value"]
abbrev N_is_between : List Str := ["value", "least", "most"]
end PK
namespace PK
open PySem PySem.Spec L2 C8 DL
/-! ### things: data of all kinds, no dict but {} -/
mutual
def th : D → Bool
  | .non => true
  | .bl _ => true
  | .int i => decide (i.natAbs < 2 ^ 64)
  | .str _ => true
  | .tup xs => decide (xs.length ≤ 1000) && ths xs
  | .lst xs => decide (xs.length ≤ 1000) && ths xs
  | .dK kvs => kvs.isEmpty
  | .tpl _ => false
  | .ref _ => false
  | .ty _ => false
  | .lk _ => false
  | .ob _ _ => false
  | .xob _ _ => false
  | .lam _ _ _ _ _ => false
  | .dT _ => false
def ths : List D → Bool
  | [] => true
  | x :: xs => th x && ths xs
end
mutual
def dep : D → Nat
  | .tup xs => deps xs
  | .lst xs => deps xs
  | .tpl xs => deps xs
  | .non => 0
  | .bl _ => 0
  | .int _ => 0
  | .str _ => 0
  | .dK _ => 0
  | .ref _ => 0
  | .ty _ => 0
  | .lk _ => 0
  | .ob _ _ => 0
  | .xob _ _ => 0
  | .lam _ _ _ _ _ => 0
  | .dT _ => 0
def deps : List D → Nat
  | [] => 0
  | x :: xs => max (dep x + 1) (deps xs)
end
def bare (w : Str) : Bool := inD (.str w) [.str "line", .str "flush", .str "drop", .str "both", .str "exit", .str "quit"]
abbrev S_is_integer (z : Ad) : FSpec := S_isInt
abbrev S_is_between (z : Ad) : FSpec := S_isBtw
/-! ### actions and bodies -/
inductive Ac where
  | bare (w : Str) | write (n : Nat) | fork (b : List Ac) | rep (n : Nat) (b : List Ac)
mutual
def enc : Ac → D
  | .bare w => .tup [.str w]
  | .write n => .tup [.str "write", .int n]
  | .fork b => .tup [.str "fork", .tup (encs b)]
  | .rep n b => .tup [.str "repeat", .int n, .tup (encs b)]
def encs : List Ac → List D
  | [] => []
  | a :: r => enc a :: encs r
end
/-! .. a repeat of none counted as one -/
/-! all actions with their places -/
/-! the words, children behind their action -/
/-! ### programs: of the one class or the other -/
def clsOf (z : Ad) (lm : Bool) : Addr := if lm = true then z.LineProgram else z.Program
def prog (z : Ad) (lm : Bool) (b : List Ac) : D := .ob (clsOf z lm) [("held", .tup (encs b))]
/-! ### the walk -/
end PK
namespace PK
open PySem PySem.Spec L2 C8 DL
/-! ### the readings -/
def w_is_integer (z : Ad) : WS := (wRet (wAndV (wB dIsi (wCons (wVar 0) (wCons (wC (.ty "int")) wNil))) (wNotV (wB dIsi (wCons (wVar 0) (wCons (wC (.ty "bool")) wNil))))))
def w_is_between (z : Ad) : WS := (wRet (wAndV (wCallP (S_is_integer z) 1 (fun ds _ => ds) (wCons (wVar 0) wNil)) (wChain (dCmpI fun i j => decide (i ≤ j)) (dCmpI fun i j => decide (i ≤ j)) (wVar 1) (wVar 0) (wVar 2))))
end PK
namespace PK
open PySem PySem.Spec L2 C8 DL
theorem p_is_integer (z : Ad) : ∀ ds h Q X, S_is_integer z ds h Q X → w_is_integer z (endsD Q X) (startD 1 ds) h := pr_isInt
theorem len_is_integer (z : Ad) : ∀ ds h Q X, S_is_integer z ds h Q X → ds.length = 1 := len_isInt
theorem mo_is_integer (z : Ad) : MoF (S_is_integer z) := mo_isInt
theorem p_is_between (z : Ad) : ∀ ds h Q X, S_is_between z ds h Q X → w_is_between z (endsD Q X) (startD 3 ds) h := pr_isBtw
theorem len_is_between (z : Ad) : ∀ ds h Q X, S_is_between z ds h Q X → ds.length = 3 := len_isBtw
theorem mo_is_between (z : Ad) : MoF (S_is_between z) := mo_isBtw
/-! things -/
theorem ths_mem : ∀ {xs : List D}, ths xs = true → ∀ x ∈ xs, th x = true
  | [], _, x, h => by cases h
  | y :: ys, hx, x, h => by
    rw [ths, Bool.and_eq_true] at hx
    rcases List.mem_cons.mp h with rfl | h
    · exact hx.1
    · exact ths_mem hx.2 x h
theorem th_tup {xs : List D} (h : th (.tup xs) = true) : xs.length ≤ 1000 ∧ ∀ x ∈ xs, th x = true := by
  rw [th, Bool.and_eq_true, decide_eq_true_iff] at h
  exact ⟨h.1, ths_mem h.2⟩
theorem deps_mem : ∀ {xs : List D} {x : D}, x ∈ xs → dep x + 1 ≤ deps xs
  | y :: ys, x, h => by
    rw [deps]
    rcases List.mem_cons.mp h with rfl | h
    · exact Nat.le_max_left ..
    · exact Nat.le_trans (deps_mem h) (Nat.le_max_right ..)
/-! is_head -/
end PK
/-! repr of things with {} within -/
namespace PK
open PySem PySem.Spec L2 C8 DL
/-! how long the text of a thing may be -/
mutual
def wt : D → Nat
  | .tup xs => 3 + wts xs
  | .lst xs => 3 + wts xs
  | .tpl _ => 0
  | .non => 4
  | .bl _ => 5
  | .int _ => 66
  | .str s => (PyData.str s).shown.length
  | .dK _ => 2
  | .ref _ => 0
  | .ty _ => 0
  | .lk _ => 0
  | .ob _ _ => 0
  | .xob _ _ => 0
  | .lam _ _ _ _ _ => 0
  | .dT _ => 0
def wts : List D → Nat
  | [] => 0
  | x :: xs => wt x + 2 + wts xs
end
/-- what repr of a thing asks -/
structure Rq (x : D) (k n : Nat) : Prop where
  da : dq x = true
  sh : (pq x).showable = true
  de : (pq x).depth ≤ k
  le : (pq x).shown.length ≤ n
theorem showall : ∀ {xs : List D}, (∀ x ∈ xs, (pq x).showable = true) → PyData.showableAll (pqs xs) = true
  | [], _ => by rw [pqs, PyData.showableAll]
  | x :: xs, h => by rw [pqs, PyData.showableAll, h x (List.mem_cons_self ..), showall fun y hy => h y (List.mem_cons_of_mem _ hy)]; rfl
theorem depall {k : Nat} : ∀ {xs : List D}, (∀ x ∈ xs, (pq x).depth ≤ k) → PyData.depthAll (pqs xs) ≤ k
  | [], _ => by rw [pqs, PyData.depthAll]; exact Nat.zero_le _
  | x :: xs, h => by rw [pqs, PyData.depthAll]; exact Nat.max_le.mpr ⟨h x (List.mem_cons_self ..), depall fun y hy => h y (List.mem_cons_of_mem _ hy)⟩
theorem dqs_ok : ∀ {xs : List D}, (∀ x ∈ xs, dq x = true) → dqs xs = true
  | [], _ => by rw [dqs]
  | x :: xs, h => by rw [dqs, h x (List.mem_cons_self ..), dqs_ok fun y hy => h y (List.mem_cons_of_mem _ hy)]; rfl
theorem shown_sum : ∀ xs : List D, (∀ x ∈ xs, (pq x).shown.length ≤ wt x) → ((PyData.shownAll (pqs xs)).map fun t => t.length + 2).sum ≤ wts xs
  | [], _ => by rw [pqs, PyData.shownAll, wts]; exact Nat.le_refl _
  | x :: xs, h => by
    have h1 := h x (List.mem_cons_self ..)
    have h2 := shown_sum xs fun y hy => h y (List.mem_cons_of_mem _ hy)
    rw [pqs, PyData.shownAll, List.map_cons, List.sum_cons, wts]
    omega
/-! things may be shown -/
mutual
theorem rq_of : ∀ {x : D}, th x = true → Rq x (dep x + 1) (wt x)
  | .non, _ => ⟨rfl, rfl, by rw [pq, PyData.depth]; exact Nat.zero_le _, by rw [pq, PyData.shown, wt]; decide⟩
  | .bl b, _ => ⟨rfl, by rw [pq, PyData.showable], by rw [pq, PyData.depth]; exact Nat.zero_le _, by rw [pq, PyData.shown, wt]; cases b <;> decide⟩
  | .int i, h => by
    rw [th, decide_eq_true_iff] at h
    have r := rp_int (j := 64) (by decide) (by decide) h
    have e : pq (.int i) = pd (.int i) := by rw [pq, pd]
    exact ⟨rfl, by rw [e]; exact r.sh, Nat.le_trans (by rw [e]; exact r.de) (Nat.zero_le _), by rw [e, wt]; exact Nat.le_trans r.le (by decide)⟩
  | .str s, _ => ⟨rfl, by rw [pq, PyData.showable], by rw [pq, PyData.depth]; exact Nat.zero_le _, by rw [pq, wt]; exact Nat.le_refl _⟩
  | .tup xs, h => by
    have hm := th_tup h
    have r := rqs_of (xs := xs) hm.2
    refine ⟨dqs_ok fun x hx => (r x hx).da, ?_, ?_, ?_⟩
    · rw [pq, PyData.showable]; exact showall fun x hx => (r x hx).sh
    · rw [pq, PyData.depth, dep]
      have := depall (xs := xs) (k := deps xs) fun x hx => Nat.le_trans (r x hx).de (deps_mem hx)
      omega
    · rw [pq, PyData.shown, wt]
      have := tup_len (PyData.shownAll (pqs xs))
      have := shown_sum xs fun x hx => (r x hx).le
      omega
  | .lst xs, h => by
    have hm : xs.length ≤ 1000 ∧ ∀ x ∈ xs, th x = true := by
      rw [th, Bool.and_eq_true, decide_eq_true_iff] at h
      exact ⟨h.1, ths_mem h.2⟩
    have r := rqs_of (xs := xs) hm.2
    refine ⟨dqs_ok fun x hx => (r x hx).da, ?_, ?_, ?_⟩
    · rw [pq, PyData.showable]; exact showall fun x hx => (r x hx).sh
    · rw [pq, PyData.depth, dep]
      have := depall (xs := xs) (k := deps xs) fun x hx => Nat.le_trans (r x hx).de (deps_mem hx)
      omega
    · rw [pq, PyData.shown, wt]
      have := lst_len (PyData.shownAll (pqs xs))
      have := shown_sum xs fun x hx => (r x hx).le
      omega
  | .dK kvs, h => by
    rw [th] at h
    refine ⟨by rw [dq]; exact h, by rw [pq]; rfl, by rw [pq, dep]; decide +kernel, by rw [pq, wt]; decide +kernel⟩
  | .tpl _, h => by rw [th] at h; cases h
  | .ref _, h => by rw [th] at h; cases h
  | .ty _, h => by rw [th] at h; cases h
  | .lk _, h => by rw [th] at h; cases h
  | .ob _ _, h => by rw [th] at h; cases h
  | .dT _, h => by rw [th] at h; cases h
  | .xob _ _, h => by rw [th] at h; cases h
  | .lam _ _ _ _ _, h => by rw [th] at h; cases h
theorem rqs_of : ∀ {xs : List D}, (∀ x ∈ xs, th x = true) → ∀ x ∈ xs, Rq x (dep x + 1) (wt x)
  | [], _, _, h => by cases h
  | y :: ys, hm, x, h => by
    rcases List.mem_cons.mp h with e | h
    · rw [e]; exact rq_of (hm y (List.mem_cons_self ..))
    · exact rqs_of (fun z hz => hm z (List.mem_cons_of_mem _ hz)) x h
end
theorem go_rq {x : D} {k n : Nat} {h : AH} {Q : KD} (r : Rq x k n) (hk : k ≤ 60) (hn : n ≤ 10000000) (q : Q (.str (pq x).shown) h) : dReprQ [x] h Q :=
  ⟨x, rfl, r.da, r.sh, Nat.le_trans r.de hk, Nat.le_trans r.le (Nat.le_trans hn (by decide)), q⟩
theorem shown_n {n : Nat} : ∀ xs : List D, (∀ x ∈ xs, (pq x).shown.length ≤ n) → ((PyData.shownAll (pqs xs)).map fun t => t.length + 2).sum ≤ xs.length * (n + 2)
  | [], _ => by rw [pqs, PyData.shownAll]; exact Nat.zero_le _
  | x :: xs, h => by
    have h1 := h x (List.mem_cons_self ..)
    have h2 := shown_n xs fun y hy => h y (List.mem_cons_of_mem _ hy)
    rw [pqs, PyData.shownAll, List.map_cons, List.sum_cons, List.length_cons, Nat.add_mul]
    omega
theorem rq_tup {xs : List D} {k n : Nat} (h : ∀ x ∈ xs, Rq x k n) : Rq (.tup xs) (k + 1) (3 + xs.length * (n + 2)) := by
  refine ⟨dqs_ok fun x hx => (h x hx).da, ?_, ?_, ?_⟩
  · rw [pq, PyData.showable]; exact showall fun x hx => (h x hx).sh
  · rw [pq, PyData.depth]
    have := depall (xs := xs) (k := k) fun x hx => (h x hx).de
    omega
  · rw [pq, PyData.shown]
    have := tup_len (PyData.shownAll (pqs xs))
    have := shown_n xs fun x hx => (h x hx).le
    omega
theorem rq_lst {xs : List D} {k n : Nat} (h : ∀ x ∈ xs, Rq x k n) : Rq (.lst xs) (k + 1) (3 + xs.length * (n + 2)) := by
  refine ⟨dqs_ok fun x hx => (h x hx).da, ?_, ?_, ?_⟩
  · rw [pq, PyData.showable]; exact showall fun x hx => (h x hx).sh
  · rw [pq, PyData.depth]
    have := depall (xs := xs) (k := k) fun x hx => (h x hx).de
    omega
  · rw [pq, PyData.shown]
    have := lst_len (PyData.shownAll (pqs xs))
    have := shown_n xs fun x hx => (h x hx).le
    omega
theorem rq_int {i : Int} {j : Nat} (hj : 0 < j) (hj2 : j ≤ 1900) (h : i.natAbs < 2 ^ j) : Rq (.int i) 0 (j + 1) := by
  have r := rp_int hj hj2 h
  have e : pq (.int i) = pd (.int i) := by rw [pq, pd]
  exact ⟨rfl, by rw [e]; exact r.sh, by rw [e]; exact r.de, by rw [e]; exact r.le⟩
end PK
namespace DL
open PySem PySem.Spec L2 C8
/-! ### data in a list of data -/
def dInD (neg : Bool) (x y : D) (h : AH) (Q : KD) : Prop := ∃ ys, cur h y = .lst ys ∧ dat (cur h x) = true ∧ dat (.lst ys) = true ∧ SeqAt.shaped (pd (cur h x)) = true ∧ SeqAt.shaped (pd (.lst ys)) = true ∧
  Q (.bl (if neg = true then !((pds ys).any fun z => PyData.eqv z (pd (cur h x))) else (pds ys).any fun z => PyData.eqv z (pd (cur h x)))) h
section
variable {X : Cx} {E : XK} {k : Nat} {gz : Bool} {a b : Expr} {wa wb : WE} {pos : Pos} {K : PySem.W.Frag}
theorem dNotInD_ok : OpD K (rNotInD K) (dInD true) where
  to := by
    rintro F h H x y vx vy Q S rx ry ⟨ys, e, c1, c2, c3, c4, q⟩
    have r2 := S.curDp ry (by rw [e]; exact c2)
    rw [e] at r2
    exact ⟨_, _, S.curDp rx c1, r2, c3, c4, q.at S (.bl _)⟩
  mo := fun hq ⟨ys, e, c1, c2, c3, c4, q⟩ => ⟨ys, e, c1, c2, c3, c4, hq _ _ q⟩
theorem at_notinD (c : Cg gz X E k) (ha : AE X E a wa) (hb : AE X E b wb) (hm : behindInMarks .NotIn b = false := by rfl) : AT X E (.Compare a [.NotIn] [b] pos) (wTest (wOp (dInD true) wa wb)) := at_cmp dNotInD_ok (op_notInD (by have := c.room.un; omega)) ha hb hm
end
end DL
namespace DL
open PySem PySem.Spec L2
/-! ### for k in d, d locked by the walk itself -/
end DL
namespace DL
open PySem PySem.Spec L2 C8
/-! ### dicts that are walked: locked from then on -/
def dkR (h : AH) : D → Option (List (Key × D))
  | .dK xs => some xs
  | .ref a => match h a with
    | some (.dK xs) => some xs
    | some (.lckK _ xs) => some xs
    | _ => none
  | _ => none
section
variable {K : PySem.W.Frag} {F : Hp} {h : AH} {H : Hp} {d : D} {v : V}
theorem Sim.dkR {kvs : List (Key × D)} (S : Sim K F h H) (r : Rep K F d v) (e : DL.dkR h d = some kvs) : ∃ a vs, v = .ref a ∧ Rd H a (.dK vs) ∧ RepK K F kvs vs := by
  cases d with
  | dK xs =>
    obtain ⟨a, vs, e1, e2, e3⟩ := S.dkOf r (show DL.dkOf h (.dK xs) = some kvs from e)
    exact ⟨a, vs, e1, .inl e2, e3⟩
  | ref a =>
    cases q : h a with
    | none => simp [DL.dkR, q] at e
    | some o =>
      cases o with
      | dK xs =>
        obtain ⟨a', vs, e1, e2, e3⟩ := S.dkOf r (show DL.dkOf h (.ref a) = some kvs from by simpa [DL.dkR, DL.dkOf, q] using e)
        exact ⟨a', vs, e1, .inl e2, e3⟩
      | lckK ob xs =>
        have : xs = kvs := by simpa [DL.dkR, q] using e
        subst this
        cases r
        obtain ⟨_, u, hu, vs, rfl, rs⟩ := S.ob _ _ q
        exact ⟨a, vs, rfl, .inr ⟨ob, hu⟩, rs⟩
      | _ => simp [DL.dkR, q] at e
  | _ => cases e
end
end DL
namespace DL
open PySem PySem.Spec L2 C8
/-! ### dicts of ints compared; more of a class, bundled -/
/-- what a look at each key of the one in the other gives -/
inductive HitD (ls : List (Key × D)) : List (Key × D) → Bool → Prop
  | nil : HitD ls [] true
  | miss {k : Key} {d : D} {r : List (Key × D)} (h : valD ls k = none) : HitD ls ((k, d) :: r) false
  | hit {k : Key} {i j : Int} {r : List (Key × D)} {b : Bool} (h : valD ls k = some (.int j)) (t : HitD ls r b) : HitD ls ((k, .int i) :: r) (decide (i = j) && b)
inductive HitV (ls : List (Key × V)) : List (Key × V) → Bool → Prop
  | nil : HitV ls [] true
  | miss {k : Key} {d : V} {r : List (Key × V)} (h : valV ls k = none) : HitV ls ((k, d) :: r) false
  | hit {k : Key} {i j : Int} {r : List (Key × V)} {b : Bool} (h : valV ls k = some (.int j)) (t : HitV ls r b) : HitV ls ((k, .int i) :: r) (decide (i = j) && b)
theorem HitD.to {K : PySem.W.Frag} {F : Hp} {ls : List (Key × D)} {ms : List (Key × V)} (rl : RepK K F ls ms) : ∀ {ks : List (Key × D)} {b : Bool}, HitD ls ks b → ∀ {vs : List (Key × V)}, RepK K F ks vs → HitV ms vs b
  | _, _, .nil, _, .nil => .nil
  | _, _, .miss h, _, .cons r t => .miss (by
      rcases rl.val _ with ⟨_, e⟩ | ⟨d, v, e, _, _⟩
      · exact e
      · rw [h] at e; cases e)
  | _, _, .hit h u, _, .cons r t => by
      cases r
      refine .hit ?_ (HitD.to rl u t)
      rcases rl.val _ with ⟨e, _⟩ | ⟨d, v, e, e2, rr⟩
      · rw [h] at e; cases e
      · rw [h] at e; cases e; cases rr; exact e2
theorem HitV.run {A : Around} {s : Shared} {ms : List (Key × V)} {vb : List (Key × Value)} (rb : KV ms vb) : ∀ {vs : List (Key × V)} {b : Bool}, HitV ms vs b → ∀ {va : List (Key × Value)}, KV vs va → PySem.W.KeqHits A s vb va b := by
  intro vs b h
  induction h with
  | nil => intro va ra; unfold KV at ra; cases ra; exact .nil
  | @miss k d r h =>
    intro va ra
    unfold KV at ra
    cases ra with
    | @cons _ q _ qs h1 t =>
      obtain ⟨h1, h2⟩ := h1
      obtain ⟨k', v⟩ := q
      cases (show k = k' from h1)
      refine .miss ?_
      have rr := rb.val k
      rw [h] at rr
      cases e : valueAt vb k with
      | none => rfl
      | some y => rw [e] at rr; exact rr.elim
  | @hit k i j r b h _ ih =>
    intro va ra
    unfold KV at ra
    cases ra with
    | @cons _ q _ qs h1 t =>
      obtain ⟨h1, h2⟩ := h1
      obtain ⟨k', v⟩ := q
      cases (show k = k' from h1)
      obtain ⟨t1, rfl⟩ := (show ∃ t, v = .int i t from h2)
      have rr : RelO (some (.int j)) (valueAt vb k) := by rw [← h]; exact rb.val k
      obtain ⟨y, hy, ry⟩ := rr.some_of
      obtain ⟨t2, rfl⟩ := (show ∃ t, y = .int j t from ry)
      have e := SeqAt.EqAt.int_int (A := A) (s := s) i t1 j t2
      rw [show (i == j) = decide (i = j) from rfl] at e
      exact .hit hy e (ih t)
end DL
namespace DL
open PySem PySem.Spec L2 C8 PyProof.Rows PySem.SeqAt PySem.MeetsSeq
open PySem.AutoSeq1 (wpAny_loadPart')
theorem int_eq_dec (b : Int) (u : Tok) (l : Addr) (c : Value) (es : Array DictEntry) (ep : Nat) (dd : Option Addr) (sl : Array (Option Value)) :
    Meets (Builtin.«int.__eq__» ⟨[.int b u, .ref l], []⟩) (fun _ R s => s.heap.get? l = some { cls := c, dict := dd, data := .dict es ep, slots := sl } ∧ R (.ok (.ret .notImplemented)) s) :=
  .of_wp fun prog w A R s h => by obtain ⟨hp, g, d, tk, os⟩ := s; obtain ⟨hl, h⟩ := h; wp_walk using wpAny_loadPart' hl, wpAny_load hl; exact ⟨_, rfl, h⟩
theorem dict_eq_dec (l : Addr) (es : Array DictEntry) (ep : Nat) (dd : Option Addr) (sl : Array (Option Value)) (b : Int) (u : Tok) :
    Meets (Builtin.«dict.__eq__» ⟨[.ref l, .int b u], []⟩) (fun _ R s => s.heap.get? l = some { cls := .type "dict", dict := dd, data := .dict es ep, slots := sl } ∧ R (.ok (.ret .notImplemented)) s) :=
  .of_wp fun prog w A R s h => by obtain ⟨hp, g, d, tk, os⟩ := s; obtain ⟨hl, h⟩ := h; have f1 := PySem.F.sub_int_dict; wp_walk using wpAny_loadPart' hl; exact ⟨_, rfl, h⟩
section
variable {X : Cx} {E : XK} {gz : Bool} {k : Nat} {a b : Expr} {wa wb : WE} {pos : Pos} {K : PySem.W.Frag}
def rEqID : R2 := fun x y H Q => ∃ i a kvs, x = .int i ∧ y = .ref a ∧ Rd H a (.dK kvs) ∧ Q (.bl false) H
theorem op_eqID (hu : X.A.units < cLine) : OpR X (compareOp .Eq) rEqID := by
  intro pins s σ H x y v u Q I rx ry h
  obtain ⟨i, a, kvs, rfl, rfl, ea, q⟩ := h
  obtain ⟨t, rfl⟩ := (show ∃ t, v = Value.int i t from rx)
  obtain rfl : u = Value.ref a := ry
  obtain ⟨_, ya, va, ra, da⟩ := (show ObjOk X.prog X.w H s.heap a (.dK kvs) from rd_of I.hok ea)
  obtain ⟨o, es, ep, ho, hc, hd, _⟩ := da
  obtain ⟨cls, dd, data, sl⟩ := o
  have hc : cls = .type "dict" := by first | exact hc | exact hc.1
  simp only at hd
  subst hc hd
  exact rc_eq_decline_or (k := false) (typeIs_int s i t) ⟨_, ho, rfl⟩ (by decide) PySem.F.sub_dict_int PySem.F.slot_int_eq PySem.F.slot_dict_eq_refl
    (fun _ hq => call_meets PySem.F.slot_int_eq (typeIs_int s i t) PySem.F.entry_int_eq (PySem.F.args_int_eq_2 _ _) (int_eq_dec i t a (.type "dict") es ep dd sl) ⟨ho, hq⟩)
    (fun _ hq => call_meets PySem.F.slot_dict_eq_refl ⟨_, ho, rfl⟩ PySem.F.entry_dict_eq (PySem.F.args_dict_eq_2 _ _) (dict_eq_dec a es ep dd sl i t) ⟨ho, hq⟩)
    (fun _ hq => wpAny_of_eq (rfl : isSame (.int i t) (.ref a) = pure false) hq) (.inr hu) ⟨.bl false, H, I, rfl, q⟩
def rEqTL (K : PySem.W.Frag) : R2 := fun x y H Q => ∃ a b us vs, x = .ref a ∧ y = .ref b ∧ SqT K H a us ∧ SqL K H b vs ∧ Q (.bl false) H
theorem op_eqTL (hu : X.A.units < cLine) : OpR X (compareOp .Eq) (rEqTL X.K) := by
  intro pins s σ H x y v u Q I rx ry h
  obtain ⟨a, b, us, vs, rfl, rfl, ha, hb, q⟩ := h
  obtain rfl : v = Value.ref a := rx
  obtain rfl : u = Value.ref b := ry
  obtain ⟨its, _, ⟨o, ho, hc, n, hd⟩, _⟩ := I.tuple ha
  obtain ⟨its2, _, ⟨o2, n2, h2, c2, d2, e2⟩, _⟩ := I.list hb
  first
    | exact RcAt.tuple_list ⟨o, ho, hc, n, hd⟩ ⟨o2, h2, c2, n2, e2⟩ hu _ _ _ _ ⟨.bl false, H, I, rfl, q⟩
    | exact RcAt.tuple_list ⟨o, ho, hc, n, hd⟩ ⟨o2, h2, c2, n2, e2.1⟩ hu _ _ _ _ ⟨.bl false, H, I, rfl, q⟩
/-- x == y, y may be a dict where x is an int, a list where x is a tuple -/
def dEqM (x y : D) (h : AH) (Q : KD) : Prop := (∃ i kvs, x = .int i ∧ dkR h y = some kvs ∧ Q (.bl false) h) ∨ (∃ xs ys, x = .tup xs ∧ lstOf h y = some ys ∧ Q (.bl false) h) ∨ dEq (fun b => b) x y h Q
theorem dEqM_ok : OpD K (fun x y H Q => rEqID x y H Q ∨ rEqTL K x y H Q ∨ rEqF K (fun b => b) x y H Q) dEqM where
  to := by
    rintro F h H x y vx vy Q S rx ry (⟨i, kvs, rfl, e, q⟩ | ⟨xs, ys, rfl, e, q⟩ | q)
    · obtain ⟨a, vs, rfl, ha, _⟩ := S.dkR ry e
      cases rx
      exact .inl ⟨i, a, vs, rfl, rfl, ha, q.at S (.bl _)⟩
    · obtain ⟨b, vs, rfl, hb, _⟩ := S.lstOf ry e
      cases rx with
      | tup hf rs => exact .inr (.inl ⟨_, b, _, vs, rfl, rfl, sqt_of S.fz hf, .of hb, q.at S (.bl _)⟩)
    · exact .inr (.inr (dEq_ok.to S rx ry q))
  mo := fun hq q => by
    rcases q with ⟨i, kvs, e1, e2, q⟩ | ⟨xs, ys, e1, e2, q⟩ | q
    · exact .inl ⟨i, kvs, e1, e2, hq _ _ q⟩
    · exact .inr (.inl ⟨xs, ys, e1, e2, hq _ _ q⟩)
    · exact .inr (.inr (dEq_ok (K := K).mo hq q))
theorem ae_eqM (c : Cg gz X E k) (ha : AE X E a wa) (hb : AE X E b wb) : AE X E (.Compare a [.Eq] [b] pos) (wOp dEqM wa wb) := ae_cmp dEqM_ok (OpR.or (op_eqID (by have := c.room.un; omega)) (OpR.or (op_eqTL (by have := c.room.un; omega)) (op_eqF c.room.units))) ha hb
theorem at_eqM (c : Cg gz X E k) (ha : AE X E a wa) (hb : AE X E b wb) : AT X E (.Compare a [.Eq] [b] pos) (wTest (wOp dEqM wa wb)) := at_cmp dEqM_ok (OpR.or (op_eqID (by have := c.room.un; omega)) (OpR.or (op_eqTL (by have := c.room.un; omega)) (op_eqF c.room.units))) ha hb
end
end DL
/-! l.pop(), and l != [] by length alone -/
namespace DL
open PySem PySem.Spec L2 C8
section
variable {X : Cx} {E : XK} {gz : Bool} {k : Nat} {a b o : Expr} {wa wb wo : WE} {pos : Pos}
/-! -/
def rNeE (K : PySem.W.Frag) : R2 := fun x y H Q => ∃ a b xs, x = .ref a ∧ y = .ref b ∧ SqL K H a xs ∧ SqL K H b [] ∧ Q (.bl (!xs.isEmpty)) H
theorem op_neE (hu : X.A.units + 64 < cLine) : OpR X (compareOp .NotEq) (rNeE X.K) := by
  intro pins s σ H x y v u Q I rx ry h
  obtain ⟨a, b, xs, rfl, rfl, h1, h2, q⟩ := h
  cases rx; cases ry
  have fin : EP X pins σ Q (.bool (!xs.isEmpty)) s := ⟨.bl _, H, I, rfl, q⟩
  obtain ⟨its, rv, p, _⟩ := I.list h1
  obtain ⟨its2, rv2, p2, _⟩ := I.list h2
  have z1 := vals_size rv
  have z2 := vals_size rv2
  cases xs with
  | nil =>
    refine PySem.SeqAt.RcNeAt.lists (e := fun _ => true) p.isList p2.isList (by rw [z1, z2]) (by omega) (fun j g1 g2 => by rw [z1] at g1; cases g1) _ _ _ _ ?_
    rw [z1]; exact fin
  | cons x xs => exact PySem.SeqAt.RcNeAt.lists_lengths p.isList p2.isList (by rw [z1, z2]; rfl) (by omega) _ _ _ _ fin
def dNeE (x y : D) (h : AH) (Q : KD) : Prop := y = .lst [] ∧ ∃ xs, lstOf h x = some xs ∧ Q (.bl (!xs.isEmpty)) h
theorem dNeE_ok {K : PySem.W.Frag} : OpD K (rNeE K) dNeE where
  to := by
    rintro F h H x y vx vy Q S rx ry ⟨rfl, xs, e, q⟩
    obtain ⟨a, vs, rfl, ha, rs⟩ := S.lstOf rx e
    cases ry with
    | @lst b _ ws hb rb =>
      cases rb
      exact ⟨a, b, vs, rfl, rfl, .of ha, .of (S.fz _ _ hb), by rw [reps_emp rs]; exact q.at S (.bl _)⟩
  mo := fun hq ⟨e, xs, e2, q⟩ => ⟨e, xs, e2, hq _ _ q⟩
theorem at_neE (c : Cg gz X E k) (ha : AE X E a wa) (hb : AE X E b wb) : AT X E (.Compare a [.NotEq] [b] pos) (wTest (wOp dNeE wa wb)) := at_cmp dNeE_ok (op_neE c.room.units) ha hb
end
end DL
namespace DL
open PySem PySem.Spec L2 C8 PyProof.Rows
/-! ### len(x) of an instance, by its __len__ -/
section
variable {X : Cx} {E : XK} {gz : Bool} {k j : Nat} {C : Addr} {S : FSpec}
def dLenO (C : Addr) (S : FSpec) (ds : List D) (h : AH) (Q : KD) : Prop := ∃ x, ds = [x] ∧ isI C x h ∧ S [x] h (fun d h2 => ∃ n : Nat, d = .int (n : Nat) ∧ n < 2 ^ 62 ∧ Q (.int (n : Nat)) h2) (fun _ _ => False)
theorem dLenO_ok (c : Cg gz X E k) (R : LenC X.prog X.w X.K X.mg X.base C j S) (hj : j + 1 ≤ k) : CaD X (.builtin "len") (dLenO C S) where
  ex := by
    obtain ⟨g, hb, hs, hf, G⟩ := R.ex
    refine ⟨fun vs H Q => ∃ a dx ws, vs = [V.ref a] ∧ H a = some (.ins C dx ws) ∧ spD X.K S [V.ref a] H (fun z H2 => ∃ n : Nat, z = .int (n : Nat) ∧ n < 2 ^ 62 ∧ Q (.int (n : Nat)) H2) L2.E0, ?_, ?_⟩
    · intro pins s σ H xs us Q I r h
      obtain ⟨a, dx, ws, rfl, hi, q1⟩ := h
      obtain ⟨u, rfl, ru⟩ := vals1 r
      obtain rfl : u = Value.ref a := ru
      obtain ⟨mA, J, _⟩ := ins_get I.hok hi
      obtain ⟨od, J, _⟩ := J.look
      refine Calls.call_function_entry kind_len plain_len entry_len (args_len1 _) ?_
      refine len_own I.kIn J hs hf (wpAny_mono (wpAny_call (SlX.run_at (us := [.ref a]) (ws := [.ref a]) G (Room.in1 (c.room.mono hj)) I.env0.in1 pass_no I (.cons rfl .nil) q1)) (fun w s' z => ?_) fun _ _ x => x)
      obtain ⟨z', H', I', rz, n, ei, hn, qz⟩ := z
      subst ei
      obtain ⟨t, e⟩ := (show ∃ t, w = Value.int n t from rz)
      cases e
      exact ⟨n, t, rfl, hn, fun t tk => ⟨.int (n : Nat), H', I'.tok _, ⟨_, rfl⟩, qz⟩⟩
    · rintro F h H ds vs Q S0 r ⟨x, rfl, ⟨fs, ei⟩, z⟩
      obtain ⟨v, rfl, r1⟩ := r.one
      obtain ⟨a, dx, ws, rfl, hi, _⟩ := S0.insOf r1 ei
      refine ⟨a, dx, ws, rfl, hi, F, _, h, S0, .cons r1 .nil, R.mo _ _ _ _ _ _ (fun d h2 z => ?_) (fun _ _ z => z.elim) z⟩
      obtain ⟨n, rfl, hn, z⟩ := z
      intro F2 H2 v e2 S2 rv
      cases rv
      exact ⟨n, rfl, hn, z F2 H2 _ e2 S2 (.int _)⟩
  mo := fun hq ⟨x, e, i, z⟩ => ⟨x, e, i, R.mo _ _ _ _ _ _ (fun d h2 ⟨n, e, l, z⟩ => ⟨n, e, l, hq _ _ z⟩) (fun _ _ z => z) z⟩
end
end DL
namespace DL
open PySem PySem.Spec L2 C8
/-! ### three names stored at once; membership in own classes as a test -/
def wPar3 (i j l : Nat) (a : WA) : WS := fun D ρ h => a ρ h (fun ds h1 => ∃ x y z, ds = [x, y, z] ∧ D.nx (((ρ.set i (some x)).set j (some y)).set l (some z)) h1) D.ex
section
variable {X : Cx} {E : XK} {gz : Bool} {k n : Nat} {a b e : Expr} {wa wb : WE} {wl : WA} {C : Addr} {S : FSpec} {pos : Pos}
theorem as_par3 (i j l : Nat) {x y z : Str} {px py pz pt : Pos} {kt k2 pt2} (c : Cg gz X E k) (hij : i ≠ j) (hil : i ≠ l) (hjl : j ≠ l) (ha : AA X E [a, b, e] wl)
    (hi : X.N[i]? = some x := by rfl) (hj : X.N[j]? = some y := by rfl) (hl : X.N[l]? = some z := by rfl)
    (hx : X.env.scope.names.lookup x = some .local := by rfl) (hy : X.env.scope.names.lookup y = some .local := by rfl) (hz : X.env.scope.names.lookup z = some .local := by rfl)
    (hw : swappedStores [.Tuple [.Name x px, .Name y py, .Name z pz] kt pt] (.Tuple [a, b, e] k2 pt2) X.env = pure (some [x, y, z]) := by rfl)
    (hs : swapsWithSole [.Tuple [.Name x px, .Name y py, .Name z pz] kt pt] (.Tuple [a, b, e] k2 pt2) pos.line X.env = pure false := by rfl) :
    AS X E (.Assign [.Tuple [.Name x px, .Name y py, .Name z pz] kt pt] (.Tuple [a, b, e] k2 pt2) pos) (wPar3 i j l wl) := by
  refine ⟨PS.imp (ps_par3 c.calm c.nd hi hj hl hij hil hjl hx hy hz ha.run hw hs) fun D σ H ⟨F, ρ, h, S, R, q⟩ => ?_, fun D D' ρ h l q => ha.mo _ _ _ _ _ _ (fun ds h1 ⟨x, y, z, e, q⟩ => ⟨x, y, z, e, l.nx _ _ q⟩) l.ex q⟩
  refine ⟨F, ρ, h, S, R, ha.mo _ _ _ _ _ _ (fun ds h1 z => ?_) (fun _ _ z => z) q⟩
  intro F1 H1 vs e1 S1 rs
  obtain ⟨x, y, z, rfl, q⟩ := z
  cases rs with
  | cons r1 rs =>
    cases rs with
    | cons r2 rs =>
      cases rs with
      | cons r3 rs =>
        cases rs
        exact ⟨_, _, _, rfl, q F1 H1 _ e1 S1 ((((R.ext e1).set r1 i).set r2 j).set r3 l)⟩
theorem at_inXn (neg : Bool) {op : CmpOp} (ho : ∀ v u, compareOp op v u = (contains u v >>= fun b => pure (Value.bool (if neg = true then !b else b)))) (c : Cg gz X E k) (R : InC X.prog X.w X.K X.mg X.base C n S) (hj : n ≤ k) (ha : AE X E a wa) (hb : AE X E b wb) (hm : behindInMarks op b = false) :
    AT X E (.Compare a [op] [b] pos) (wTest (wInX neg C S wa wb)) := by
  obtain ⟨g, h1, h2, h3⟩ := R.ex
  have ok : OpXD X.K E (rInX neg C fun vs H Q => spD X.K S vs H Q E) (fun x y h Q X => isI C y h ∧ S [y, x] h (fun d h3 => ∃ b, d = .bl b ∧ Q (.bl (if neg = true then !b else b)) h3) X) := {
    to := by
      rintro F h H x y vx vy Q S0 rx ry ⟨⟨fs, ex⟩, q⟩
      obtain ⟨p, dx, us, rfl, hp, _⟩ := S0.insOf ry ex
      refine ⟨p, dx, us, rfl, hp, F, _, h, S0, .cons ry (.cons rx .nil), R.mo _ _ _ _ _ _ (fun d h3 z => ?_) (fun _ _ z => z) q⟩
      obtain ⟨b, rfl, z⟩ := z
      intro F2 H2 v e2 S2 rv
      cases rv
      exact ⟨b, rfl, z F2 H2 _ e2 S2 (.bl _)⟩
    mo := fun hq hx ⟨a, q⟩ => ⟨a, R.mo _ _ _ _ _ _ (fun d h3 ⟨b, e, z⟩ => ⟨b, e, hq _ _ z⟩) hx q⟩ }
  have M : MoE (wInX neg C S wa wb) := mo_opX ok.mo ha.mo hb.mo
  refine ⟨PT.imp (pt_cmpR (op_inX neg op ho c h1 h2 h3 hj) ha.run hb.run hm) fun σ H Q ⟨F, ρ, g, S, R, q⟩ => ?_, fun ρ h Q Q' X X' hq hx q => ?_⟩
  · refine twoX ok ha hb ⟨F, ρ, g, S, R, M _ _ _ _ _ _ (fun x h1 hx => ?_) (fun _ _ z => z) q⟩
    intro F1 H1 vx e1 S1 rx
    split at hx
    · cases rx; exact ⟨_, rfl, hx F1 H1 e1 S1⟩
    · exact hx.elim
  · refine M _ _ _ _ _ _ (fun x h1 q1 => ?_) hx q
    split at q1
    · exact hq _ _ q1
    · exact q1.elim
theorem at_inX (c : Cg gz X E k) (R : InC X.prog X.w X.K X.mg X.base C n S) (hj : n ≤ k) (ha : AE X E a wa) (hb : AE X E b wb) (hm : behindInMarks .In b = false := by first | exact nobehind _ (by decide) (by decide) | rfl) :
    AT X E (.Compare a [.In] [b] pos) (wTest (wInX false C S wa wb)) := at_inXn false (fun _ _ => by first | rfl | (unfold compareOp; rfl)) c R hj ha hb hm
theorem at_notinX (c : Cg gz X E k) (R : InC X.prog X.w X.K X.mg X.base C n S) (hj : n ≤ k) (ha : AE X E a wa) (hb : AE X E b wb) (hm : behindInMarks .NotIn b = false := by first | exact nobehind _ (by decide) (by decide) | rfl) :
    AT X E (.Compare a [.NotIn] [b] pos) (wTest (wInX true C S wa wb)) := at_inXn true (fun _ _ => by first | rfl | (unfold compareOp; rfl)) c R hj ha hb hm
end
theorem u_par3 {i j l : Nat} {a : WA} {D0 : EndsD} {ρ : EnvD} {h : AH} : wPar3 i j l a D0 ρ h = a ρ h (fun ds h1 => ∃ x y z, ds = [x, y, z] ∧ D0.nx (((ρ.set i (some x)).set j (some y)).set l (some z)) h1) D0.ex := rfl
end DL
namespace K71
open PySem PySem.Spec L2 C8 DL FM PK
abbrev N_is_integer : List Str := ["value"]
abbrev N_is_between : List Str := ["value", "least", "most"]
abbrev N_common_divisor : List Str := ["one", "other"]
abbrev N_modulus_of : List Str := ["capacity", "most"]
abbrev N_shared : List Str := ["capacity", "other", "most"]
abbrev N_do_agree : List Str := ["one", "other", "most", "difference", "divisor"]
abbrev N_need_capacity_meters : List Str := ["value"]
abbrev N_need_bound : List Str := ["value"]
abbrev N_Meter___init__ : List Str := ["self", "most"]
abbrev N_Meter_readings : List Str := ["self"]
abbrev N_Meter_most : List Str := ["self"]
abbrev N_Meter_steps : List Str := ["self"]
abbrev N_Meter_settle : List Str := ["self", "readings", "most"]
abbrev N_Meter_take : List Str := ["self", "capacity", "length", "reading", "old"]
abbrev N_Meter_add : List Str := ["self", "capacity", "length"]
abbrev N_Meter___len__ : List Str := ["self"]
abbrev N_Meter___contains__ : List Str := ["self", "x", "capacity", "length"]
abbrev N_Meter___getitem__ : List Str := ["self", "at", "found", "capacity", "length"]
abbrev N__law_pen : List Str := ["_law_script"]
abbrev N__law_draw : List Str := ["_law_pen_here", "_law_many", "_law_digit", "_law_at", "_law_cell", "_law_great", "_law_mixed"]
abbrev N__law_divisor : List Str := ["_law_one", "_law_other"]
abbrev N__law_agree : List Str := ["_law_first", "_law_second", "_law_bound", "_law_gap", "_law_sizes", "_law_both", "_law_size_here"]
abbrev N__law_size : List Str := ["_law_pen_here", "_law_some"]
abbrev N__law_source : List Str := ["_law_pen_here", "_law_far", "_law_kept", "_law_k"]
abbrev N__law_length : List Str := ["_law_source_here", "_law_size_here", "_law_at", "_law_amount"]
abbrev N__law_reading : List Str := ["_law_pen_here", "_law_source_here", "_law_size_here", "_law_gap"]
abbrev N__law_fields : List Str := ["_law_caught", "_law_at"]
abbrev N__law_heard : List Str := ["_law_ask", "_law_caught", "_law_found", "error", "_law_marks", "_law_others", "_law_at"]
abbrev N__law_odd : List Str := ["_law_pen_here", "_law_some"]
abbrev N__law_added : List Str := ["_law_kept", "_law_bound", "_law_size_here", "_law_worth", "_law_old"]
abbrev N__law_stands : List Str := ["_law_pen_here", "_law_gauge", "_law_kept", "_law_many", "_law_bound", "_law_due", "_law_other", "_law_known", "_law_told", "_law_size_here", "_law_worth"]
abbrev N_law : List Str := ["_law_script", "_law_pen_here", "_law_turn", "_law_bound", "_law_gauge", "_law_kept", "_law_many", "_law_source_here", "_law_step", "_law_size_here", "_law_worth", "_law_due", "_law_told"]
/-- the tables of the defs that make lambdas -/
def Tb (z : Ad) (h : AH) : Prop := h z.t0 = some (.tab (("law" : Str) ++ ".<locals>." ++ "<lambda>")) ∧ h z.t1 = some (.tab (("_law_stands" : Str) ++ ".<locals>." ++ "<lambda>"))
/-- a value that is passed -/
structure Vl (x : D) : Prop where
  ty : ∃ t : String, ∀ h, tyD h x = some t
  rq : Rq x 2 300
  eq : ∀ (i : Int) (h : AH) (Q : KD), (∀ b : Bool, (∀ j, x = .int j → b = decide (i = j)) → ((∀ j, x ≠ .int j) → (∀ c, x ≠ .bl c) → b = false) → Q (.bl b) h) → dEqM (.int i) x h Q
def dueA (rs : List Rg) (e : Option Int) (x y : D) : D × List Rg :=
  if btw x 1 10000 = false then (.tup [.str "capacity", x], rs) else if btw y 0 (10 ^ 30) = false then (.tup [.str "reading", y], rs) else
  match x, y with
  | .int c, .int l => match fstN rs e (c, l) with
    | some r => (.tup [.str "against", .int r.1, .int c], rs)
    | none => (.lst [.non], if (c, l) ∈ rs then rs else rs ++ [(c, l)])
  | _, _ => (.non, rs)
/-- what is kept -/
structure Kp (rs : List Rg) : Prop where
  ln : rs.length ≤ 60
  c1 : ∀ r ∈ rs, 1 ≤ r.1 ∧ r.1 ≤ 10000
  c2 : ∀ r ∈ rs, 0 ≤ r.2 ∧ r.2 ≤ 10 ^ 30
  nd : (rs.map Prod.fst).Nodup
def S__law_odd (z : Ad) : FSpec := fun ds h Q _ => ∃ (n : Int) (p : Addr), ds = [.ref p] ∧ PenAt n h p ∧ n < 900000 ∧ ∀ x o, Vl x → PenO (n + 1) o → Q x (up h p o)
def S__law_added (z : Ad) : FSpec := fun ds h Q _ => ∃ k rs e x y, ds = [.ref k, bnD e, x, y] ∧ Vl x ∧ Vl y ∧ h k = some (.lst (rs.map pairD)) ∧ Kp rs ∧ Q (dueA rs e x y).1 (up h k (.lst ((dueA rs e x y).2.map pairD)))
def S__law_stands (z : Ad) : FSpec := fun ds h Q _ => ∃ (n : Int) (p g k : Addr) (m : Mt), ds = [.ref p, .ref g, .ref k, .int (m.ear.length : Nat), bnD m.edge] ∧ Tb z h ∧ PenAt n h p ∧ n < 900000 ∧ MtAt z m h g ∧ MOk m ∧ h k = some (.lst (m.noted.map pairD)) ∧ Kp m.noted ∧
  (∀ b, m.edge = some b → 0 ≤ b ∧ b ≤ 10000) ∧ ∀ o h', PenO (n + 10) o → Sub (up h p o) h' → Q (.bl true) h'
def S_law (z : Ad) : FSpec := fun ds h Q _ => ∃ js : List Int, ds = [.lk (js.map D.int)] ∧ Tb z h ∧ ∀ h', Q (.bl true) h'
/-! ### the readings -/
def w__law_odd (z : Ad) : WS := (wSeq (wAsg (wLst false (wCons (wNeg (wC (.int 1))) (wCons (wC (.bl true)) (wCons (wC (.bl false)) (wCons (wC .non) (wCons (wC (.str "2")) (wCons (wTup (wCons (wC (.int 2)) wNil)) (wCons (wLst false (wCons (wC (.int 2)) wNil)) (wCons wDnewF (wCons (wOp dPow (wC (.int 10)) (wC (.int 59))) (wCons (wOp dSub (wC (.int 0)) (wOp dPow (wC (.int 10)) (wC (.int 59)))) (wCons (wC (.str "")) wNil)))))))))))) (gN 1))
  (wRet (wOp dIx (wVar 1) (wCallP (FM.S__law_draw z) 2 (fun ds _ => ds) (wCons (wVar 0) (wCons (wC (.int 11)) wNil))))))
def w__law_added (z : Ad) : WS := (wSeq (wIfS (wOr (wNot (wTest (wB dIsi (wCons (wVar 2) (wCons (wC (.ty "int")) wNil))))) (wOr (wTest (wB dIsi (wCons (wVar 2) (wCons (wC (.ty "bool")) wNil)))) (wNot (wTest (wChain (dCmpI fun i j => decide (i ≤ j)) (dCmpI fun i j => decide (i ≤ j)) (wC (.int 1)) (wVar 2) (wOp dPow (wC (.int 10)) (wC (.int 4)))))))) (wRet (wTup (wCons (wC (.str "capacity")) (wCons (wVar 2) wNil)))) wSkip)
  (wSeq (wIfS (wOr (wNot (wTest (wB dIsi (wCons (wVar 3) (wCons (wC (.ty "int")) wNil))))) (wOr (wTest (wB dIsi (wCons (wVar 3) (wCons (wC (.ty "bool")) wNil)))) (wNot (wTest (wChain (dCmpI fun i j => decide (i ≤ j)) (dCmpI fun i j => decide (i ≤ j)) (wC (.int 0)) (wVar 3) (wOp dPow (wC (.int 10)) (wC (.int 30)))))))) (wRet (wTup (wCons (wC (.str "reading")) (wCons (wVar 3) wNil)))) wSkip)
  (wSeq (wFor (iSeq (wVar 0)) (gN 4) (wIfS (wNot (wTest (wCallP (FM.S__law_agree z) 3 (fun ds _ => ds) (wCons (wVar 4) (wCons (wTup (wCons (wVar 2) (wCons (wVar 3) wNil))) (wCons (wVar 1) wNil)))))) (wRet (wTup (wCons (wC (.str "against")) (wCons (wOp dIx (wVar 4) (wC (.int 0))) (wCons (wVar 2) wNil))))) wSkip))
  (wSeq (wIfS (wTest (wOp (dInD true) (wTup (wCons (wVar 2) (wCons (wVar 3) wNil))) (wVar 0))) (wExpr (wMethT isL dAppend (wVar 0) (wCons (wTup (wCons (wVar 2) (wCons (wVar 3) wNil))) wNil))) wSkip)
  (wRet (wLst false (wCons (wC .non) wNil)))))))
def w__law_stands (z : Ad) : WS := (wSeq (wAsg (wLst false (wCons (wB dTupOf (wCons (wVar 2) wNil)) (wCons (wB dLen (wCons (wVar 2) wNil)) (wCons (wVar 3) (wCons (wVar 4) wNil))))) (gN 5))
  (wSeq (wIfS (wTest (wOp (dEq fun b => !b) (wB dReprQ (wCons (wLst false (wCons (wProp z.Meter (FM.S_Meter_readings z) (wVar 1)) (wCons (wB (dLenO z.Meter (FM.S_Meter___len__ z)) (wCons (wVar 1) wNil)) (wCons (wProp z.Meter (FM.S_Meter_steps z) (wVar 1)) (wCons (wProp z.Meter (FM.S_Meter_most z) (wVar 1)) wNil))))) wNil)) (wB dReprQ (wCons (wVar 5) wNil)))) (wRet (wC (.bl false))) wSkip)
  (wSeq (wIfS (wTest (wOp dNeE (wLc false (iSeq (wVar 2)) (gT 2 (gsN [9, 10])) (wOr (wTest (wInX true z.Meter (FM.S_Meter___contains__ z) (wVar 9) (wVar 1))) (wTest (wOp (dEq fun b => !b) (wIxX z.Meter (FM.S_Meter___getitem__ z) (wVar 1) (wVar 9)) (wVar 10)))) (wC (.int 1)) [9, 10]) (wLst false wNil))) (wRet (wC (.bl false))) wSkip)
  (wSeq (wAsg (wOp dIx (wLst false (wCons (wCallP (S__law_odd z) 1 (fun ds _ => ds) (wCons (wVar 0) wNil)) (wCons (wOp (dAdd false) (wC (.int 1)) (wCallP (FM.S__law_draw z) 2 (fun ds _ => ds) (wCons (wVar 0) (wCons (wC (.int 60)) wNil)))) (wCons (wC (.int 0)) (wCons (wC (.int 1)) wNil))))) (wCallP (FM.S__law_draw z) 2 (fun ds _ => ds) (wCons (wVar 0) (wCons (wC (.int 4)) wNil)))) (gN 6))
  (wSeq (wAsg (wLc false (iSeq (wVar 2)) (gT 2 (gsN [9, 10])) (wAnd (wTest (wOp dEqM (wVar 9) (wVar 6))) (wNot (wTest (wB dIsi (wCons (wVar 6) (wCons (wC (.ty "bool")) wNil)))))) (wVar 10) [9, 10]) (gN 7))
  (wSeq (wAsg (wHeard (FM.S__law_heard z) z.t1 (("_law_stands" : Str) ++ ".<locals>." ++ "<lambda>") (wIxX z.Meter (FM.S_Meter___getitem__ z) (wVar 1) (wVar 6))) (gN 8))
  (wSeq (wIfS (wTest (wOp dNeE (wVar 7) (wLst false wNil))) (wRet (wAndV (wOp (dEq fun b => b) (wVar 8) (wVar 7)) (wOp (dIsN fun b => b) (wInX false z.Meter (FM.S_Meter___contains__ z) (wVar 6) (wVar 1)) (wC (.bl true))))) wSkip)
  (wRet (wAndV (wOp (dEq fun b => b) (wB dReprQ (wCons (wVar 8) wNil)) (wB dReprQ (wCons (wTup (wCons (wC (.str "absent")) (wCons (wVar 6) wNil))) wNil))) (wOp (dIsN fun b => b) (wInX false z.Meter (FM.S_Meter___contains__ z) (wVar 6) (wVar 1)) (wC (.bl false))))))))))))
def w_law (z : Ad) : WS := (wSeq (wAsg (wCallP (FM.S__law_pen z) 1 (fun ds _ => ds) (wCons (wVar 0) wNil)) (gN 1))
  (wSeq (wFor (iRng1 (wCons (wC (.int 3)) wNil)) (gN 2) (wSeq (wAsg (wOp dIx (wLst false (wCons (wC .non) (wCons (wC .non) (wCons (wCallP (FM.S__law_draw z) 2 (fun ds _ => ds) (wCons (wVar 1) (wCons (wC (.int 60)) wNil))) (wCons (wOp dPow (wC (.int 10)) (wC (.int 4))) wNil))))) (wCallP (FM.S__law_draw z) 2 (fun ds _ => ds) (wCons (wVar 1) (wCons (wC (.int 4)) wNil)))) (gN 3))
  (wSeq (wAsg (wIf (wTest (wOp (dIsN fun b => b) (wVar 3) (wC .non))) (wMakeM true z.Meter (FM.S_Meter___init__ z) 0 0 (pickE [.inl 0, .inr .non]) wNil wNil) (wMakeM true z.Meter (FM.S_Meter___init__ z) 0 1 (pickD [0, 1]) wNil (wCons (wVar 3) wNil))) (gN 4))
  (wSeq (wPar3 5 6 7 (wCons (wLst true wNil) (wCons (wC (.int 0)) (wCons (wCallP (FM.S__law_source z) 1 (fun ds _ => ds) (wCons (wVar 1) wNil)) wNil))))
  (wFor (iRng1 (wCons (wOp dIx (wLst false (wCons (wC (.int 45)) (wCons (wC (.int 9)) (wCons (wC (.int 5)) wNil)))) (wVar 2)) wNil)) (gN 8) (wSeq (wAsg (wCallP (FM.S__law_reading z) 2 (fun ds _ => ds) (wCons (wVar 1) (wCons (wVar 7) wNil))) (gT 2 (gsCons (gN 9) (gsCons (gN 10) gsNil))))
  (wSeq (wIfS (wTest (wOp (dEq fun b => b) (wCallP (FM.S__law_draw z) 2 (fun ds _ => ds) (wCons (wVar 1) (wCons (wC (.int 6)) wNil))) (wC (.int 0)))) (wAsg (wOp dIx (wLst false (wCons (wCallP (S__law_odd z) 1 (fun ds _ => ds) (wCons (wVar 1) wNil)) (wCons (wC (.int 0)) (wCons (wOp (dAdd false) (wOp dPow (wC (.int 10)) (wC (.int 4))) (wC (.int 1))) (wCons (wOp dPow (wC (.int 10)) (wC (.int 4))) wNil))))) (wCallP (FM.S__law_draw z) 2 (fun ds _ => ds) (wCons (wVar 1) (wCons (wC (.int 4)) wNil)))) (gN 9)) wSkip)
  (wSeq (wIfS (wTest (wOp (dEq fun b => b) (wCallP (FM.S__law_draw z) 2 (fun ds _ => ds) (wCons (wVar 1) (wCons (wC (.int 6)) wNil))) (wC (.int 0)))) (wAsg (wOp dIx (wLst false (wCons (wCallP (S__law_odd z) 1 (fun ds _ => ds) (wCons (wVar 1) wNil)) (wCons (wOp (dAdd false) (wOp dPow (wC (.int 10)) (wC (.int 30))) (wC (.int 1))) (wCons (wOp dPow (wC (.int 10)) (wC (.int 30))) (wCons (wC (.int 0)) wNil))))) (wCallP (FM.S__law_draw z) 2 (fun ds _ => ds) (wCons (wVar 1) (wCons (wC (.int 4)) wNil)))) (gN 10)) wSkip)
  (wSeq (wAsg (wCallP (S__law_added z) 4 (fun ds _ => ds) (wCons (wVar 5) (wCons (wVar 3) (wCons (wVar 9) (wCons (wVar 10) wNil))))) (gN 11))
  (wSeq (wAsg (wHeard (FM.S__law_heard z) z.t0 (("law" : Str) ++ ".<locals>." ++ "<lambda>") (wMet z.Meter "add" (FM.S_Meter_add z) (wVar 4) (wCons (wVar 9) (wCons (wVar 10) wNil)))) (gN 12))
  (wSeq (wAsg (wOp (dAdd false) (wVar 6) (wB dInt (wCons (wOp dEqM (wVar 11) (wLst false (wCons (wC .non) wNil))) wNil))) (gN 6))
  (wIfS (wOr (wTest (wOp (dEq fun b => !b) (wB dReprQ (wCons (wVar 12) wNil)) (wB dReprQ (wCons (wVar 11) wNil)))) (wNot (wTest (wCallP (S__law_stands z) 5 (fun ds _ => ds) (wCons (wVar 1) (wCons (wVar 4) (wCons (wVar 5) (wCons (wVar 6) (wCons (wVar 3) wNil))))))))) (wRet (wC (.bl false))) wSkip))))))))))))
  (wSeq (wAsg (wMakeM true z.Meter (FM.S_Meter___init__ z) 0 0 (pickE [.inl 0, .inr .non]) wNil wNil) (gN 4))
  (wSeq (wAsg (wLst false (wCons (wMet z.Meter "add" (FM.S_Meter_add z) (wVar 4) (wCons (wC (.int 2)) (wCons (wC (.int 7)) wNil))) (wCons (wMetK z.Meter "add" (FM.S_Meter_add z) 2 (pickD [0, 2, 1]) (wVar 4) (wCons (wC (.int 9)) (wCons (wC (.int 4)) wNil))) (wCons (wHeard (FM.S__law_heard z) z.t0 (("law" : Str) ++ ".<locals>." ++ "<lambda>") (wMet z.Meter "add" (FM.S_Meter_add z) (wVar 4) (wCons (wC (.int 4)) (wCons (wC (.int 8)) wNil)))) (wCons (wMet z.Meter "add" (FM.S_Meter_add z) (wVar 4) (wCons (wC (.int 4)) (wCons (wC (.int 9)) wNil))) wNil))))) (gN 12))
  (wRet (wAndV (wOp (dEq fun b => b) (wVar 12) (wLst false (wCons (wC .non) (wCons (wC .non) (wCons (wTup (wCons (wC (.str "against")) (wCons (wC (.int 2)) (wCons (wC (.int 4)) wNil)))) (wCons (wC .non) wNil)))))) (wAndV (wOp (dEq fun b => b) (wProp z.Meter (FM.S_Meter_readings z) (wVar 4)) (wTup (wCons (wTup (wCons (wC (.int 2)) (wCons (wC (.int 7)) wNil))) (wCons (wTup (wCons (wC (.int 4)) (wCons (wC (.int 9)) wNil))) wNil)))) (wOp (dEq fun b => b) (wProp z.Meter (FM.S_Meter_steps z) (wVar 4)) (wC (.int 3))))))))))
theorem len__law_odd (z : Ad) : ∀ ds h Q X, S__law_odd z ds h Q X → ds.length = 1 := fun _ _ _ _ ⟨_, _, e, _⟩ => by rw [e]; rfl
theorem mo__law_odd (z : Ad) : MoF (S__law_odd z) := fun _ _ _ _ _ _ hq _ ⟨a, b, e, o1, o2, q⟩ => ⟨a, b, e, o1, o2, fun x o i1 i2 => hq _ _ (q x o i1 i2)⟩
theorem len__law_added (z : Ad) : ∀ ds h Q X, S__law_added z ds h Q X → ds.length = 4 := fun _ _ _ _ ⟨_, _, _, _, _, e, _⟩ => by rw [e]; rfl
theorem mo__law_added (z : Ad) : MoF (S__law_added z) := fun _ _ _ _ _ _ hq _ ⟨a, b, c, d, f, e, o1, o2, o3, o4, q⟩ => ⟨a, b, c, d, f, e, o1, o2, o3, o4, hq _ _ q⟩
theorem len__law_stands (z : Ad) : ∀ ds h Q X, S__law_stands z ds h Q X → ds.length = 5 := fun _ _ _ _ ⟨_, _, _, _, _, e, _⟩ => by rw [e]; rfl
theorem mo__law_stands (z : Ad) : MoF (S__law_stands z) := fun _ _ _ _ _ _ hq _ ⟨a, b, c, d, f, e, o1, o2, o3, o4, o5, o6, o7, o8, q⟩ => ⟨a, b, c, d, f, e, o1, o2, o3, o4, o5, o6, o7, o8, fun o h' i1 i2 => hq _ _ (q o h' i1 i2)⟩
theorem len_law (z : Ad) : ∀ ds h Q X, S_law z ds h Q X → ds.length = 1 := fun _ _ _ _ ⟨_, e, _⟩ => by rw [e]; rfl
theorem mo_law (z : Ad) : MoF (S_law z) := fun _ _ _ _ _ _ hq _ ⟨a, e, o, q⟩ => ⟨a, e, o, fun h' => hq _ _ (q h')⟩
theorem law_at (z : Ad) : ∀ (js : List Int) (h : AH), js.length ≤ 63 → Tb z h → S_law z [.lk (js.map D.int)] h (fun d _ => d = .bl true) (fun _ _ => False) := fun js h _ t => ⟨js, rfl, t, fun _ => rfl⟩
end K71
namespace PK
open PySem PySem.Spec L2 C8 DL
/-! ### loops over what is left -/
/-! ### typed lists -/
end PK
namespace PK
open PySem PySem.Spec L2 C8 DL
end PK
namespace PK
open PySem PySem.Spec L2 C8 DL
end PK
namespace PK
open PySem PySem.Spec L2 C8 DL
end PK
namespace PK
open PySem PySem.Spec L2 C8 DL
end PK
namespace PK
open PySem PySem.Spec L2 C8 DL
end PK
namespace PK
open PySem PySem.Spec L2 C8 DL
end PK
namespace PK
open PySem PySem.Spec L2 C8 DL
end PK
namespace PK
open PySem PySem.Spec L2 C8 DL
end PK
namespace PK
open PySem PySem.Spec L2 C8 DL
/-! ### more for families of laws -/
theorem at_memq {xs : List D} {v : Int} (h0 : 0 ≤ v) (h1 : v < xs.length) : ∃ x ∈ xs, atI xs v = some x := by
  obtain ⟨k, rfl⟩ := Int.eq_ofNat_of_zero_le h0
  have hk : k < xs.length := by omega
  exact ⟨xs[k], List.getElem_mem hk, by rw [atI_nat hk]; exact List.getElem?_eq_getElem hk⟩
end PK
namespace PK
open PySem PySem.Spec L2 C8 DL
/-! ### bodies and words may be shown -/
theorem text_same {f : Bool → Bool} {s : Str} {h : AH} {Q : KD} (q : Q (.bl (f true)) h) : dEq f (.str s) (.str s) h Q := by
  rw [u_eqS, decide_eq_true rfl]; exact q
end PK
namespace PK
open PySem PySem.Spec L2 C8 DL
/-! ### bodies compared by == -/
theorem fl_str {w : Str} (h : (PyData.str w).canLay0 = true) : Fl (.str w) 0 := ⟨rfl, by rw [pd]; exact h, by rw [pd, PyData.depth]; exact Nat.le_refl _⟩
end PK
namespace K71
open PySem PySem.Spec L2 C8 DL PK FM
theorem vl_int {i : Int} (h : i.natAbs < 2 ^ 210) : Vl (.int i) := by
  refine ⟨⟨"int", fun _ => rfl⟩, ?_, fun j g Q q => .inr (.inr (q _ (fun k e => by cases e; rfl) (fun n _ => absurd rfl (n i))))⟩
  have r := rq_int (j := 210) (by decide) (by decide) h
  exact ⟨r.da, r.sh, Nat.le_trans r.de (by decide), Nat.le_trans r.le (by decide)⟩
theorem rq_wk {x : D} {k n k2 n2 : Nat} (r : Rq x k n) (h1 : k ≤ k2) (h2 : n ≤ n2) : Rq x k2 n2 := ⟨r.da, r.sh, Nat.le_trans r.de h1, Nat.le_trans r.le h2⟩
theorem vl_th {x : D} (ht : th x = true) (hd : dep x + 1 ≤ 2) (hw : wt x ≤ 300) (ty : ∃ t : String, ∀ h, tyD h x = some t) (ne : ∀ i, x ≠ .int i)
    (eq : ∀ (i : Int) (h : AH) (Q : KD), (∀ b : Bool, ((∀ c, x ≠ .bl c) → b = false) → Q (.bl b) h) → dEqM (.int i) x h Q) : Vl x :=
  ⟨ty, rq_wk (rq_of ht) hd hw, fun i h Q q => eq i h Q fun b hb => q b (fun j e => absurd e (ne j)) (fun _ hc => hb hc)⟩
def oddL : List D := [.int (-1), .bl true, .bl false, .non, .str "2", .tup [.int 2], .lst [.int 2], .dK [], .int (10 ^ Int.toNat 59), .int (0 - 10 ^ Int.toNat 59), .str ""]
theorem vl_odd : ∀ x ∈ oddL, Vl x := by
  intro x hx
  have hx : x = .int (-1) ∨ x = .bl true ∨ x = .bl false ∨ x = .non ∨ x = .str "2" ∨ x = .tup [.int 2] ∨ x = .lst [.int 2] ∨ x = .dK [] ∨ x = .int (10 ^ Int.toNat 59) ∨ x = .int (0 - 10 ^ Int.toNat 59) ∨ x = .str "" := by simpa [oddL] using hx
  rcases hx with rfl | rfl | rfl | rfl | rfl | rfl | rfl | rfl | rfl | rfl | rfl
  · exact vl_int (by decide)
  · exact vl_th (by decide +kernel) (by decide +kernel) (by decide +kernel) ⟨_, fun _ => rfl⟩ (fun i e => by cases e) fun i h Q q => .inr (.inr ⟨rfl, rfl, rfl, rfl, q _ fun n => absurd rfl (n _)⟩)
  · exact vl_th (by decide +kernel) (by decide +kernel) (by decide +kernel) ⟨_, fun _ => rfl⟩ (fun i e => by cases e) fun i h Q q => .inr (.inr ⟨rfl, rfl, rfl, rfl, q _ fun n => absurd rfl (n _)⟩)
  · exact vl_th (by decide +kernel) (by decide +kernel) (by decide +kernel) ⟨_, fun _ => rfl⟩ (fun i e => by cases e) fun i h Q q => .inr (.inr ⟨rfl, rfl, rfl, rfl, q _ fun n => rfl⟩)
  · exact vl_th (by decide +kernel) (by decide +kernel) (by decide +kernel) ⟨_, fun _ => rfl⟩ (fun i e => by cases e) fun i h Q q => .inr (.inr ⟨rfl, rfl, rfl, (fl_str (by rw [PyData.canLay0]; decide +kernel)).sh (by decide), q _ fun n => rfl⟩)
  · exact vl_th (by decide +kernel) (by decide +kernel) (by decide +kernel) ⟨_, fun _ => rfl⟩ (fun i e => by cases e) fun i h Q q => .inr (.inr ⟨rfl, rfl, rfl, rfl, q _ fun n => rfl⟩)
  · exact vl_th (by decide +kernel) (by decide +kernel) (by decide +kernel) ⟨_, fun _ => rfl⟩ (fun i e => by cases e) fun i h Q q => .inr (.inr ⟨rfl, rfl, rfl, rfl, q _ fun n => rfl⟩)
  · exact vl_th (by decide +kernel) (by decide +kernel) (by decide +kernel) ⟨_, fun _ => rfl⟩ (fun i e => by cases e) fun i h Q q => .inl ⟨i, [], rfl, rfl, q _ fun n => rfl⟩
  · exact vl_int (by decide +kernel)
  · exact vl_int (by decide +kernel)
  · exact vl_th (by decide +kernel) (by decide +kernel) (by decide +kernel) ⟨_, fun _ => rfl⟩ (fun i e => by cases e) fun i h Q q => .inr (.inr ⟨rfl, rfl, rfl, (fl_str (by rw [PyData.canLay0]; decide +kernel)).sh (by decide), q _ fun n => rfl⟩)
theorem at_memq {xs : List D} {v : Int} (h0 : 0 ≤ v) (h1 : v < xs.length) : ∃ d ∈ xs, atI xs v = some d := by
  obtain ⟨k, rfl⟩ := Int.eq_ofNat_of_zero_le h0
  have lk : k < xs.length := by omega
  exact ⟨xs[k], List.getElem_mem lk, by rw [atI_nat lk, List.getElem?_eq_getElem lk]⟩
theorem p__law_odd (z : Ad) : ∀ ds h Q X, S__law_odd z ds h Q X → w__law_odd z (endsD Q X) (startD 2 ds) h := by
  rintro ds h Q X ⟨n, p, rfl, I, hn, q⟩
  show w__law_odd z (endsD Q X) [some (.ref p), none] h
  replace I := Inv0.start I
  unfold w__law_odd
  rw [u_seq, u_asg, u_lst]
  simp only [u_cons, u_nil, u_tup, u_op, u_c, wVar, u_neg, u_lst, wDnewF, List.getElem?_cons_zero, List.getElem?_cons_succ]
  have z1 : ∀ (n : Nat), n ≤ 1000 → n ≤ sizeLine := fun n h => Nat.le_trans h (by decide)
  refine ⟨z1 1 (by decide), z1 1 (by decide), ?_⟩
  rw [u_newF]
  refine ⟨⟨by decide, by decide, by decide⟩, ⟨by decide, by decide, by decide⟩, ?_⟩
  show _ ∧ _
  refine ⟨z1 11 (by decide), ?_⟩
  rw [u_newF, u_gN]
  dsimp only [List.set_cons_zero, List.set_cons_succ]
  simp only [u_asg, u_gN, u_ret, u_retN, u_skip, u_expr, u_ifs, u_c, u_op, u_neg, u_test, u_and, u_or, u_not, u_if, u_nil, u_cons, u_tup, u_lst, u_callP, u_call, u_b, u_chain, u_andV, u_addI, u_subI, u_mulI, u_divI, u_modI, u_powI, u_cmpI, u_eqI, u_eqS, u_eqB, u_abs, u_intI, u_intB, u_newT, u_newF, u_isN, u_notN, wVar, List.set_cons_zero, List.set_cons_succ, List.getElem?_cons_zero, List.getElem?_cons_succ, List.length_cons, List.length_nil, u_lc, u_for, u_r1, u_r2, u_r3, u_num, u_notV, u_yes, u_w0, u_w1, u_dput, u_get2, u_dget, u_prop, u_fld, u_setF, u_make, u_makeS, u_met, u_calO, u_orT, u_tupIt, u_dc, u_maxDd, u_dnew, u_tupi, ix_p0, ix_p1, wSl, woNone, woSome]
  refine ⟨trivial, draw_go I (by omega) (div_ok (by decide) (by decide)) fun v o v0 v1 I _ => ?_⟩
  obtain ⟨x, hx, e⟩ := at_memq (xs := oddL) v0 v1
  show dIx (.lst oddL) (.int v) _ _
  rw [u_ixLd e]
  obtain ⟨o', r, s⟩ := I.sub
  exact fin_sub s (q x o' (vl_odd x hx) r)
/-! ### what is added -/
theorem up_self {h : AH} {a : Addr} {u : AO} (e : h a = some u) : up h a u = h := by
  funext b
  by_cases c : b = a
  · subst c; rw [up_same, e]
  · rw [up_ne c]
theorem agr_own {e : Option Int} {r s : Rg} (h : r.1 = s.1) : agr e r s = decide (r.2 - s.2 = 0) := by
  unfold agr
  rw [if_pos (.inl h)]
theorem fst_none {rs : List Rg} {e : Option Int} {x : Rg} (h : fstN rs e x = none) : ∀ r ∈ rs, agr e r x = true := by
  unfold fstN at h
  rw [List.find?_eq_none] at h
  intro r hr
  have := h r hr
  cases c : agr e r x with
  | true => rfl
  | false => rw [c] at this; exact absurd rfl this
/-- a reading that fits is there just if its capacity is -/
theorem has_in {rs : List Rg} {e : Option Int} {x : Rg} (h : fstN rs e x = none) : hasC rs (.int x.1) = true ↔ x ∈ rs := by
  unfold hasC
  dsimp only
  rw [List.any_eq_true]
  constructor
  · rintro ⟨r, hr, c⟩
    have c := of_decide_eq_true c
    have a := fst_none h r hr
    rw [agr_own c] at a
    have a := of_decide_eq_true a
    have : r = x := Prod.ext c (by omega)
    exact this ▸ hr
  · intro hx
    exact ⟨x, hx, decide_eq_true rfl⟩
theorem pds_any {rs : List Rg} {x : Rg} : ((pds (rs.map pairD)).any fun z => PyData.eqv z (pd (pairD x))) = decide (x ∈ rs) := by
  induction rs with
  | nil => rfl
  | cons r rs ih =>
    rw [List.map_cons, pds, List.any_cons, ih]
    have e : PyData.eqv (pd (pairD r)) (pd (pairD x)) = decide (r = x) := by
      obtain ⟨a, b⟩ := r
      obtain ⟨c, d⟩ := x
      simp only [pairD, pd, pds, PyData.eqv, PyData.eqvAll, Bool.and_true]
      rw [Bool.eq_iff_iff]
      simp
    rw [e]
    by_cases c : r = x
    · subst c; simp
    · rw [decide_eq_false c, Bool.false_or]
      congr 1
      rw [List.mem_cons]
      exact propext ⟨.inr, fun h => h.resolve_left fun e => c e.symm⟩
theorem int_ty {h : AH} {i : Int} {t : String} (e : tyD h (.int i) = some t) : t = "int" := (Option.some.inj e).symm
theorem ty_bl {h : AH} {x : D} (e : tyD h x = some "bool") : ∃ b, x = .bl b := by
  cases x with
  | bl b => exact ⟨b, rfl⟩
  | ref a =>
    unfold tyD cur at e
    dsimp only at e
    split at e <;> simp_all
    split at * <;> simp_all
  | _ => simp [tyD, cur] at e
theorem ty_cls {h : AH} {x : D} {t : String} (e : tyD h x = some t) : (∃ i, x = .int i ∧ t = "int") ∨ (∃ b, x = .bl b ∧ t = "bool") ∨ (L2.kitB t "int" = some false ∧ L2.kitB t "bool" = some false ∧ ∀ i, x ≠ .int i) := by
  rcases tyD_in e with rfl | rfl | rfl | rfl | rfl | rfl | rfl
  · exact .inr (.inr ⟨rfl, rfl, by rintro i rfl; exact absurd (int_ty e) (by decide)⟩)
  · obtain ⟨b, rfl⟩ := ty_bl e
    exact .inr (.inl ⟨b, rfl, rfl⟩)
  · obtain ⟨i, rfl⟩ := ty_isint e
    exact .inl ⟨i, rfl, rfl⟩
  all_goals exact .inr (.inr ⟨rfl, rfl, by rintro i rfl; exact absurd (int_ty e) (by decide)⟩)
/-- the law's own look at a number -/
theorem odd_go {v : Nat} {x : D} {t : String} {lo hi : Int} {ρ : EnvD} {h : AH} {Q : Bool → AH → Prop} {X : KX} {wh : WE} (hv : ρ[v]? = some (some x)) (ht : tyD h x = some t) (hw : ∀ Q2 : KD, Q2 (.int hi) h → wh ρ h Q2 X) (q : Q (!btw x lo hi) h) :
    wOr (DL.wNot (wTest (wB dIsi (wCons (wVar v) (wCons (wC (.ty "int")) wNil))))) (wOr (wTest (wB dIsi (wCons (wVar v) (wCons (wC (.ty "bool")) wNil)))) (DL.wNot (wTest (wChain (dCmpI fun i j => decide (i ≤ j)) (dCmpI fun i j => decide (i ≤ j)) (wC (.int lo)) (wVar v) wh)))) ρ h Q X := by
  simp only [wVar, u_asg, u_gN, u_ret, u_retN, u_skip, u_expr, u_ifs, u_c, u_op, u_neg, u_test, u_and, u_or, u_not, u_if, u_nil, u_cons, u_tup, u_lst, u_callP, u_call, u_b, u_chain, u_andV, u_addI, u_subI, u_mulI, u_divI, u_modI, u_powI, u_cmpI, u_eqI, u_eqS, u_eqB, u_abs, u_intI, u_intB, u_newT, u_newF, u_isN, u_notN, wVar, List.set_cons_zero, List.set_cons_succ, List.getElem?_cons_zero, List.getElem?_cons_succ, List.length_cons, List.length_nil, u_lc, u_for, u_r1, u_r2, u_r3, u_num, u_notV, u_yes, u_w0, u_w1, u_dput, u_get2, u_dget, u_prop, u_fld, u_setF, u_make, u_makeS, u_met, u_calO, u_orT, u_tupIt, u_dc, u_maxDd, u_dnew, u_tupi, ix_p0, ix_p1, wSl, woNone, woSome]
  rw [hv]
  dsimp only
  rcases ty_cls ht with ⟨i, rfl, rfl⟩ | ⟨b, rfl, rfl⟩ | ⟨k1, k2, no⟩
  · refine ⟨_, _, _, true, rfl, ht, rfl, ?_⟩
    dsimp only
    rw [if_neg (by decide)]
    refine ⟨_, _, _, false, rfl, ht, rfl, ?_⟩
    dsimp only
    rw [if_neg (by decide)]
    rw [u_cmpI]
    dsimp only
    unfold btw at q
    dsimp only at q
    by_cases c : lo ≤ i
    · rw [decide_eq_true c] at q ⊢
      rw [if_pos rfl]
      refine hw _ ?_
      rw [u_cmpI]
      rw [Bool.true_and] at q
      exact q
    · rw [decide_eq_false c] at q ⊢
      rw [if_neg (by decide)]
      exact q
  · refine ⟨_, _, _, true, rfl, ht, rfl, ?_⟩
    dsimp only
    rw [if_neg (by decide)]
    exact ⟨_, _, _, true, rfl, ht, rfl, q⟩
  · refine ⟨_, _, _, false, rfl, ht, k1, ?_⟩
    dsimp only
    rw [if_pos (by decide)]
    rw [show btw x lo hi = false by cases x <;> first | rfl | exact absurd rfl (no _)] at q
    exact q
theorem p__law_added (z : Ad) : ∀ ds h Q X, S__law_added z ds h Q X → w__law_added z (endsD Q X) (startD 5 ds) h := by
  rintro ds h Q X ⟨k, rs, e, x, y, rfl, vx, vy, hk, kp, q⟩
  show w__law_added z (endsD Q X) [some (.ref k), some (bnD e), some x, some y, none] h
  obtain ⟨t, ht⟩ := vx.ty
  obtain ⟨u, hu⟩ := vy.ty
  unfold w__law_added
  have pw : ∀ (a : Nat) (b : Int) {ρ : EnvD} {X0 : KX} (Q2 : KD), (10 : Int) ^ Int.toNat (a : Int) = b → a ≤ 1000 → Q2 (.int b) h → wOp dPow (wC (.int 10)) (wC (.int (a : Nat))) ρ h Q2 X0 := fun a b ρ X0 Q2 e l q => by
    subst e
    exact ⟨⟨by omega, by omega, by decide⟩, q⟩
  rw [u_seq, u_ifs]
  refine odd_go (hi := 10000) rfl (ht h) (fun Q2 q => pw 4 10000 Q2 (by decide) (by decide) q) ?_
  cases c1 : btw x 1 10000 with
  | false =>
    unfold dueA at q
    rw [if_pos c1, up_self hk] at q
    simp only [Bool.not_false, if_true, u_asg, u_gN, u_ret, u_retN, u_skip, u_expr, u_ifs, u_c, u_op, u_neg, u_test, u_and, u_or, u_not, u_if, u_nil, u_cons, u_tup, u_lst, u_callP, u_call, u_b, u_chain, u_andV, u_addI, u_subI, u_mulI, u_divI, u_modI, u_powI, u_cmpI, u_eqI, u_eqS, u_eqB, u_abs, u_intI, u_intB, u_newT, u_newF, u_isN, u_notN, wVar, List.set_cons_zero, List.set_cons_succ, List.getElem?_cons_zero, List.getElem?_cons_succ, List.length_cons, List.length_nil, u_lc, u_for, u_r1, u_r2, u_r3, u_num, u_notV, u_yes, u_w0, u_w1, u_dput, u_get2, u_dget, u_prop, u_fld, u_setF, u_make, u_makeS, u_met, u_calO, u_orT, u_tupIt, u_dc, u_maxDd, u_dnew, u_tupi, ix_p0, ix_p1, wSl, woNone, woSome]
    exact ⟨by decide, fin_of q⟩
  | true =>
  unfold dueA at q
  rw [if_neg (by rw [c1]; decide)] at q
  simp only [Bool.not_true, Bool.false_eq_true, if_false, u_skip]
  rw [u_seq, u_ifs]
  refine odd_go (hi := 10 ^ 30) rfl (hu h) (fun Q2 q => pw 30 (10 ^ 30) Q2 (by decide) (by decide) q) ?_
  cases c2 : btw y 0 (10 ^ 30) with
  | false =>
    rw [if_pos c2, up_self hk] at q
    simp only [Bool.not_false, if_true, u_asg, u_gN, u_ret, u_retN, u_skip, u_expr, u_ifs, u_c, u_op, u_neg, u_test, u_and, u_or, u_not, u_if, u_nil, u_cons, u_tup, u_lst, u_callP, u_call, u_b, u_chain, u_andV, u_addI, u_subI, u_mulI, u_divI, u_modI, u_powI, u_cmpI, u_eqI, u_eqS, u_eqB, u_abs, u_intI, u_intB, u_newT, u_newF, u_isN, u_notN, wVar, List.set_cons_zero, List.set_cons_succ, List.getElem?_cons_zero, List.getElem?_cons_succ, List.length_cons, List.length_nil, u_lc, u_for, u_r1, u_r2, u_r3, u_num, u_notV, u_yes, u_w0, u_w1, u_dput, u_get2, u_dget, u_prop, u_fld, u_setF, u_make, u_makeS, u_met, u_calO, u_orT, u_tupIt, u_dc, u_maxDd, u_dnew, u_tupi, ix_p0, ix_p1, wSl, woNone, woSome]
    exact ⟨by decide, fin_of q⟩
  | true =>
  rw [if_neg (by rw [c2]; decide)] at q
  simp only [Bool.not_true, Bool.false_eq_true, if_false, u_skip]
  obtain ⟨c, rfl, i1, i2⟩ : ∃ i, x = .int i ∧ 1 ≤ i ∧ i ≤ 10000 := by
    cases x <;> first | (refine ⟨_, rfl, ?_⟩; simpa [btw] using c1) | (cases c1)
  obtain ⟨l, rfl, i3, i4⟩ : ∃ i, y = .int i ∧ 0 ≤ i ∧ i ≤ 10 ^ 30 := by
    cases y <;> first | (refine ⟨_, rfl, ?_⟩; simpa [btw] using c2) | (cases c2)
  dsimp only at q
  refine seq_go (fun ρ h' => ∃ a4, ρ = [some (.ref k), some (bnD e), some (.int c), some (.int l), a4] ∧ h = h' ∧ fstN rs e (c, l) = none) (fun K kk => ?_) ?_
  · rw [u_for]
    refine seqi_go rfl (lst_ref hk) fun st hst => ?_
    refine loop_go (fun i ρ h' => ∃ a4, ρ = [some (.ref k), some (bnD e), some (.int c), some (.int l), a4] ∧ h = h' ∧ ∀ j, j < i → ∀ r, rs[j]? = some r → agr e r (c, l) = true) ⟨_, rfl, rfl, fun j hj => by omega⟩ (fun i ρ g ⟨_, _, e2, _⟩ => e2 ▸ hst _ (Sub.refl _)) ?_ ?_
    · rintro i y _ _ K2 hi ⟨a4, rfl, rfl, hj⟩ k2
      rw [List.getElem?_map] at hi
      obtain ⟨r, hr, rfl⟩ := Option.map_eq_some_iff.mp hi
      have r1 := kp.c1 r (List.mem_of_getElem? hr)
      rw [u_gN]
      dsimp only [List.set_cons_zero, List.set_cons_succ]
      simp only [u_asg, u_gN, u_ret, u_retN, u_skip, u_expr, u_ifs, u_c, u_op, u_neg, u_test, u_and, u_or, u_not, u_if, u_nil, u_cons, u_tup, u_lst, u_callP, u_call, u_b, u_chain, u_andV, u_addI, u_subI, u_mulI, u_divI, u_modI, u_powI, u_cmpI, u_eqI, u_eqS, u_eqB, u_abs, u_intI, u_intB, u_newT, u_newF, u_isN, u_notN, wVar, List.set_cons_zero, List.set_cons_succ, List.getElem?_cons_zero, List.getElem?_cons_succ, List.length_cons, List.length_nil, u_lc, u_for, u_r1, u_r2, u_r3, u_num, u_notV, u_yes, u_w0, u_w1, u_dput, u_get2, u_dget, u_prop, u_fld, u_setF, u_make, u_makeS, u_met, u_calO, u_orT, u_tupIt, u_dc, u_maxDd, u_dnew, u_tupi, ix_p0, ix_p1, wSl, woNone, woSome]
      refine ⟨by decide, trivial, r, (c, l), e, rfl, by omega, by omega, ?_⟩
      dsimp only
      cases ea : agr e r (c, l) with
      | true =>
        simp only [Bool.not_true, Bool.false_eq_true, if_false]
        refine k2 _ _ ⟨_, rfl, rfl, fun j hj2 r2 h2 => ?_⟩
        by_cases c2 : j = i
        · subst c2; rw [hr] at h2; cases h2; exact ea
        · exact hj j (by omega) r2 h2
      | false =>
        rw [fst_at hj hr ea] at q
        dsimp only at q
        rw [up_self hk] at q
        simp only [Bool.not_false, if_true, u_asg, u_gN, u_ret, u_retN, u_skip, u_expr, u_ifs, u_c, u_op, u_neg, u_test, u_and, u_or, u_not, u_if, u_nil, u_cons, u_tup, u_lst, u_callP, u_call, u_b, u_chain, u_andV, u_addI, u_subI, u_mulI, u_divI, u_modI, u_powI, u_cmpI, u_eqI, u_eqS, u_eqB, u_abs, u_intI, u_intB, u_newT, u_newF, u_isN, u_notN, wVar, List.set_cons_zero, List.set_cons_succ, List.getElem?_cons_zero, List.getElem?_cons_succ, List.length_cons, List.length_nil, u_lc, u_for, u_r1, u_r2, u_r3, u_num, u_notV, u_yes, u_w0, u_w1, u_dput, u_get2, u_dget, u_prop, u_fld, u_setF, u_make, u_makeS, u_met, u_calO, u_orT, u_tupIt, u_dc, u_maxDd, u_dnew, u_tupi, ix_p0, ix_p1, wSl, woNone, woSome]
        exact ⟨by decide, fin_of q⟩
    · rintro _ _ ⟨a4, rfl, rfl, hj⟩
      rw [List.length_map] at hj
      refine kk _ _ ⟨_, rfl, rfl, ?_⟩
      rw [fst_take hj, List.drop_length]; rfl
  rintro _ _ ⟨a4, rfl, rfl, hn⟩
  rw [hn] at q
  dsimp only at q
  ((try dsimp only); rw [u_seq]; (try simp only [u_asg, u_gN, u_ret, u_retN, u_skip, u_expr, u_ifs, u_c, u_op, u_neg, u_test, u_and, u_or, u_not, u_if, u_nil, u_cons, u_tup, u_lst, u_callP, u_call, u_b, u_chain, u_andV, u_addI, u_subI, u_mulI, u_divI, u_modI, u_powI, u_cmpI, u_eqI, u_eqS, u_eqB, u_abs, u_intI, u_intB, u_newT, u_newF, u_isN, u_notN, wVar, List.set_cons_zero, List.set_cons_succ, List.getElem?_cons_zero, List.getElem?_cons_succ, List.length_cons, List.length_nil, u_lc, u_for, u_r1, u_r2, u_r3, u_num, u_notV, u_yes, u_w0, u_w1, u_dput, u_get2, u_dget, u_prop, u_fld, u_setF, u_make, u_makeS, u_met, u_calO, u_orT, u_tupIt, u_dc, u_maxDd, u_dnew, u_tupi, ix_p0, ix_p1, wSl, woNone, woSome]))
  have fp : ∀ r : Rg, Fl (pairD r) 1 := fun r => fl_tup (k := 0) fun x hx => by
    rcases List.mem_cons.mp hx with rfl | hx
    · exact fl_int _
    · obtain rfl : x = .int r.2 := by simpa using hx
      exact fl_int _
  have fl : Fl (.lst (rs.map pairD)) 2 := fl_lst (k := 1) fun x hx => by
    obtain ⟨r, _, rfl⟩ := List.mem_map.mp hx
    exact fp r
  have cu : cur h (.ref k) = .lst (rs.map pairD) := by simp [cur, hk]
  refine ⟨by decide, _, cu, (fp (c, l)).da, fl.da, (fp (c, l)).sh (by decide), fl.sh (by decide), ?_⟩
  have an : ((pds (rs.map pairD)).any fun w => PyData.eqv w (pd (cur h (D.tup [.int c, .int l])))) = decide ((c, l) ∈ rs) := pds_any (rs := rs) (x := (c, l))
  rw [an, if_pos rfl]
  dsimp only
  by_cases ci : (c, l) ∈ rs
  · rw [if_pos ci, up_self hk] at q
    rw [decide_eq_true ci, if_neg (by decide)]
    exact ⟨by decide, fin_of q⟩
  · rw [if_neg ci] at q
    rw [decide_eq_false ci, if_pos (by decide)]
    simp only [wMethT, u_asg, u_gN, u_ret, u_retN, u_skip, u_expr, u_ifs, u_c, u_op, u_neg, u_test, u_and, u_or, u_not, u_if, u_nil, u_cons, u_tup, u_lst, u_callP, u_call, u_b, u_chain, u_andV, u_addI, u_subI, u_mulI, u_divI, u_modI, u_powI, u_cmpI, u_eqI, u_eqS, u_eqB, u_abs, u_intI, u_intB, u_newT, u_newF, u_isN, u_notN, wVar, List.set_cons_zero, List.set_cons_succ, List.getElem?_cons_zero, List.getElem?_cons_succ, List.length_cons, List.length_nil, u_lc, u_for, u_r1, u_r2, u_r3, u_num, u_notV, u_yes, u_w0, u_w1, u_dput, u_get2, u_dget, u_prop, u_fld, u_setF, u_make, u_makeS, u_met, u_calO, u_orT, u_tupIt, u_dc, u_maxDd, u_dnew, u_tupi, ix_p0, ix_p1, wSl, woNone, woSome]
    have ll := kp.ln
    refine ⟨⟨_, lst_ref hk⟩, by decide, k, _, _, rfl, rfl, hk, FM.lt_sz (by rw [List.length_map]; omega), by decide, ?_⟩
    rw [List.map_append] at q
    exact fin_of q
end K71
namespace K71
open PySem PySem.Spec L2 C8 DL PK FM
theorem filt_none {rs : List Rg} {c : Int} (h : c ∉ rs.map Prod.fst) : rs.filter (fun s => decide (s.1 = c)) = [] := by
  rw [List.filter_eq_nil_iff]
  intro s hs e
  exact h (List.mem_map.mpr ⟨s, hs, of_decide_eq_true e⟩)
theorem filt_one : ∀ {rs : List Rg}, (rs.map Prod.fst).Nodup → ∀ r ∈ rs, rs.filter (fun s => decide (s.1 = r.1)) = [r]
  | [], _, _, h => by cases h
  | y :: ys, nd, r, h => by
    rw [List.map_cons, List.nodup_cons] at nd
    rw [List.filter_cons]
    rcases List.mem_cons.mp h with rfl | h
    · rw [if_pos (decide_eq_true rfl), filt_none nd.1]
    · have ne : ¬ y.1 = r.1 := fun e => nd.1 (List.mem_map.mpr ⟨r, h, e.symm⟩)
      rw [if_neg (by rw [decide_eq_false ne]; decide), filt_one nd.2 r h]
/-- what is kept at a value: nothing, or one -/
theorem len_two {rs : List Rg} {x : D} (nd : (rs.map Prod.fst).Nodup) : (lenC rs x = [] ∧ hasC rs x = false) ∨ ∃ r, lenC rs x = [r] ∧ hasC rs x = true := by
  cases x with
  | int c =>
    unfold lenC hasC
    dsimp only
    by_cases h : c ∈ rs.map Prod.fst
    · obtain ⟨r, hr, rfl⟩ := List.mem_map.mp h
      exact .inr ⟨r, filt_one nd r hr, by rw [List.any_eq_true]; exact ⟨r, hr, decide_eq_true rfl⟩⟩
    · refine .inl ⟨filt_none h, ?_⟩
      rw [List.any_eq_false]
      intro r hr e
      exact h (List.mem_map.mpr ⟨r, hr, of_decide_eq_true e⟩)
  | _ => exact .inl ⟨rfl, rfl⟩
theorem MtAt.sub {z : Ad} {m : Mt} {h g : AH} {a : Addr} (H : MtAt z m h a) (s : Sub h g) : MtAt z m g a := s _ _ H
theorem rq_big {i : Int} (h : i.natAbs < 2 ^ 200) : Rq (.int i) 0 201 := rq_int (by decide) (by decide) h
theorem rq_rds {rs : List Rg} (kp : Kp rs) : Rq (rdsD rs) 2 100000 := by
  have p : ∀ r ∈ rs, Rq (pairD r) 1 500 := fun r hr => rq_wk (rq_tup (k := 0) (n := 201) fun x hx => by
    have a := kp.c1 r hr
    have b := kp.c2 r hr
    have e30 : (10 : Int) ^ 30 = 1000000000000000000000000000000 := by decide
    have e200 : (2 : Nat) ^ 200 = 1606938044258990275541962092341162602522202993782792835301376 := by decide
    rcases List.mem_cons.mp hx with rfl | hx
    · exact rq_big (by omega)
    · obtain rfl : x = .int r.2 := by simpa using hx
      exact rq_big (by omega)) (by decide) (by show 3 + 2 * (201 + 2) ≤ 500; decide)
  have l := kp.ln
  refine rq_wk (rq_tup (k := 1) (n := 500) fun x hx => ?_) (by decide) (by rw [List.length_map]; omega)
  obtain ⟨r, hr, rfl⟩ := List.mem_map.mp hx
  exact p r hr
theorem int_bl {h : AH} {c : Bool} {t : String} (e : tyD h (.bl c) = some t) : t = "bool" := (Option.some.inj e).symm
theorem p__law_stands (z : Ad) : ∀ ds h Q X, S__law_stands z ds h Q X → w__law_stands z (endsD Q X) (startD 11 ds) h := by
  rintro ds h Q X ⟨n, p, g, k, m, rfl, tb, I, hn, H, ok, hk, kp, eb, q⟩
  show w__law_stands z (endsD Q X) [some (.ref p), some (.ref g), some (.ref k), some (.int (m.ear.length : Nat)), some (bnD m.edge), none, none, none, none, none, none] h
  have tp : z.t0 ≠ p ∧ z.t1 ≠ p := by
    obtain ⟨o, e1, cs, _, _, e2, _⟩ := I
    constructor
    · rintro e; have := tb.1; rw [e, e1, e2] at this; cases this
    · rintro e; have := tb.2; rw [e, e1, e2] at this; cases this
  have gp : g ≠ p := by
    obtain ⟨o, e1, cs, _, _, e2, _⟩ := I
    rintro e; have := H; unfold MtAt at this; rw [e, e1, e2] at this; cases this
  unfold w__law_stands
  ((try dsimp only); rw [u_seq]; (try simp only [u_asg, u_gN, u_ret, u_retN, u_skip, u_expr, u_ifs, u_c, u_op, u_neg, u_test, u_and, u_or, u_not, u_if, u_nil, u_cons, u_tup, u_lst, u_callP, u_call, u_b, u_chain, u_andV, u_addI, u_subI, u_mulI, u_divI, u_modI, u_powI, u_cmpI, u_eqI, u_eqS, u_eqB, u_abs, u_intI, u_intB, u_newT, u_newF, u_isN, u_notN, wVar, List.set_cons_zero, List.set_cons_succ, List.getElem?_cons_zero, List.getElem?_cons_succ, List.length_cons, List.length_nil, u_lc, u_for, u_r1, u_r2, u_r3, u_num, u_notV, u_yes, u_w0, u_w1, u_dput, u_get2, u_dget, u_prop, u_fld, u_setF, u_make, u_makeS, u_met, u_calO, u_orT, u_tupIt, u_dc, u_maxDd, u_dnew, u_tupi, ix_p0, ix_p1, wSl, woNone, woSome]))
  have l60 := kp.ln
  have rqL : Rq (.lst [rdsD m.noted, .int (m.noted.length : Nat), .int (m.ear.length : Nat), bnD m.edge]) 3 500000 := by
    refine rq_wk (rq_lst (k := 2) (n := 100000) fun x hx => ?_) (by decide) (by show 3 + 4 * (100000 + 2) ≤ 500000; decide)
    have l2 := ok.er
    have hx : x = rdsD m.noted ∨ x = .int (m.noted.length : Nat) ∨ x = .int (m.ear.length : Nat) ∨ x = bnD m.edge := by simpa using hx
    rcases hx with rfl | rfl | rfl | rfl
    · exact rq_rds kp
    · exact rq_wk (rq_big (by omega)) (by decide) (by decide)
    · exact rq_wk (rq_big (by omega)) (by decide) (by decide)
    · cases e : m.edge with
      | none => exact ⟨rfl, rfl, by decide, by decide⟩
      | some b =>
        have := eb b e
        exact rq_wk (rq_big (by omega)) (by decide) (by decide)
  refine ⟨_, _, rfl, seq_ref hk, m.noted.length, ?_, ?_⟩
  · show lenD h (.ref k) = some _
    simp only [lenD, cur, hk]; rw [List.length_map]
  refine ⟨by decide, ?_⟩
  ((try dsimp only); rw [u_seq]; (try simp only [u_asg, u_gN, u_ret, u_retN, u_skip, u_expr, u_ifs, u_c, u_op, u_neg, u_test, u_and, u_or, u_not, u_if, u_nil, u_cons, u_tup, u_lst, u_callP, u_call, u_b, u_chain, u_andV, u_addI, u_subI, u_mulI, u_divI, u_modI, u_powI, u_cmpI, u_eqI, u_eqS, u_eqB, u_abs, u_intI, u_intB, u_newT, u_newF, u_isN, u_notN, wVar, List.set_cons_zero, List.set_cons_succ, List.getElem?_cons_zero, List.getElem?_cons_succ, List.length_cons, List.length_nil, u_lc, u_for, u_r1, u_r2, u_r3, u_num, u_notV, u_yes, u_w0, u_w1, u_dput, u_get2, u_dget, u_prop, u_fld, u_setF, u_make, u_makeS, u_met, u_calO, u_orT, u_tupIt, u_dc, u_maxDd, u_dnew, u_tupi, ix_p0, ix_p1, wSl, woNone, woSome]))
  have nb : ∀ (x : Nat), x ≤ 1000 → x < 2 ^ 62 := fun x h => Nat.lt_of_le_of_lt h (by decide)
  refine ⟨H.is, g, m, rfl, H, _, rfl, H.is, g, m, rfl, H, m.noted.length, rfl, nb _ ok.nd, H.is, g, m, rfl, H, H.is, g, m, rfl, H, by decide, ?_⟩
  refine go_rq rqL (by decide) (by decide) (go_rq rqL (by decide) (by decide) (text_same ?_))
  dsimp only
  rw [if_neg (by decide)]
  ((try dsimp only); rw [u_seq]; (try simp only [u_asg, u_gN, u_ret, u_retN, u_skip, u_expr, u_ifs, u_c, u_op, u_neg, u_test, u_and, u_or, u_not, u_if, u_nil, u_cons, u_tup, u_lst, u_callP, u_call, u_b, u_chain, u_andV, u_addI, u_subI, u_mulI, u_divI, u_modI, u_powI, u_cmpI, u_eqI, u_eqS, u_eqB, u_abs, u_intI, u_intB, u_newT, u_newF, u_isN, u_notN, wVar, List.set_cons_zero, List.set_cons_succ, List.getElem?_cons_zero, List.getElem?_cons_succ, List.length_cons, List.length_nil, u_lc, u_for, u_r1, u_r2, u_r3, u_num, u_notV, u_yes, u_w0, u_w1, u_dput, u_get2, u_dget, u_prop, u_fld, u_setF, u_make, u_makeS, u_met, u_calO, u_orT, u_tupIt, u_dc, u_maxDd, u_dnew, u_tupi, ix_p0, ix_p1, wSl, woNone, woSome]))
  refine seqi_go rfl (lst_ref hk) fun st hst r hr => ?_
  refine comp_go (fun i h' => h' = up h r (.lst [])) rfl (fun i g e => e ▸ hst _ (sub_up hr)) ?_ ?_
  · rintro i x _ K9 hi rfl k9
    rw [List.getElem?_map] at hi
    obtain ⟨s, hs, rfl⟩ := Option.map_eq_some_iff.mp hi
    have sm := List.mem_of_getElem? hs
    have H2 : MtAt z m (up h r (.lst [])) g := sub_up hr _ _ H
    have f1 := filt_one kp.nd s sm
    have hc : hasC m.noted (.int s.1) = true := by
      unfold hasC
      dsimp only
      rw [List.any_eq_true]; exact ⟨s, sm, decide_eq_true rfl⟩
    refine go_n2 ?_
    simp only [u_inX, u_ixX, u_asg, u_gN, u_ret, u_retN, u_skip, u_expr, u_ifs, u_c, u_op, u_neg, u_test, u_and, u_or, u_not, u_if, u_nil, u_cons, u_tup, u_lst, u_callP, u_call, u_b, u_chain, u_andV, u_addI, u_subI, u_mulI, u_divI, u_modI, u_powI, u_cmpI, u_eqI, u_eqS, u_eqB, u_abs, u_intI, u_intB, u_newT, u_newF, u_isN, u_notN, wVar, List.set_cons_zero, List.set_cons_succ, List.getElem?_cons_zero, List.getElem?_cons_succ, List.length_cons, List.length_nil, u_lc, u_for, u_r1, u_r2, u_r3, u_num, u_notV, u_yes, u_w0, u_w1, u_dput, u_get2, u_dget, u_prop, u_fld, u_setF, u_make, u_makeS, u_met, u_calO, u_orT, u_tupIt, u_dc, u_maxDd, u_dnew, u_tupi, ix_p0, ix_p1, wSl, woNone, woSome]
    refine ⟨H2.is, g, m, .int s.1, "int", rfl, H2, ok, rfl, _, rfl, ?_⟩
    rw [hc]
    simp only [if_true, Bool.not_true, Bool.false_eq_true, if_false]
    refine ⟨H2.is, g, m, .int s.1, "int", rfl, H2, ok, rfl, fun e => ?_, fun u l e => ?_⟩
    · unfold lenC at e
      dsimp only at e
      rw [f1] at e; cases e
    · unfold lenC at e
      dsimp only at e
      rw [f1] at e
      cases e
      rw [u_eqI, decide_eq_true rfl]
      dsimp only
      rw [if_neg (by decide)]
      exact k9 _ rfl
  rintro _ rfl
  refine endF hr ?_
  refine ⟨by decide, rfl, _, rfl, ?_⟩
  dsimp only [List.isEmpty]
  rw [if_neg (by decide)]
  replace I := Inv0.start I
  have kpn : k ≠ p := by
    obtain ⟨o, e1, cs, _, _, e2, _⟩ := I.pen
    rintro e; rw [e, e1, e2] at hk
    have hk := AO.lst.inj (Option.some.inj hk)
    have := kp.c1
    cases hm : m.noted with
    | nil => rw [hm] at hk; cases hk
    | cons r rs => rw [hm] at hk; cases hk
  ((try dsimp only); rw [u_seq]; (try simp only [u_asg, u_gN, u_ret, u_retN, u_skip, u_expr, u_ifs, u_c, u_op, u_neg, u_test, u_and, u_or, u_not, u_if, u_nil, u_cons, u_tup, u_lst, u_callP, u_call, u_b, u_chain, u_andV, u_addI, u_subI, u_mulI, u_divI, u_modI, u_powI, u_cmpI, u_eqI, u_eqS, u_eqB, u_abs, u_intI, u_intB, u_newT, u_newF, u_isN, u_notN, wVar, List.set_cons_zero, List.set_cons_succ, List.getElem?_cons_zero, List.getElem?_cons_succ, List.length_cons, List.length_nil, u_lc, u_for, u_r1, u_r2, u_r3, u_num, u_notV, u_yes, u_w0, u_w1, u_dput, u_get2, u_dget, u_prop, u_fld, u_setF, u_make, u_makeS, u_met, u_calO, u_orT, u_tupIt, u_dc, u_maxDd, u_dnew, u_tupi, ix_p0, ix_p1, wSl, woNone, woSome]))
  refine ⟨trivial, n, p, rfl, I.pen, by omega, fun x o vx po => ?_⟩
  replace I := I.draw po
  generalize hg1 : up h p o = h1 at I ⊢
  dsimp only
  refine ⟨trivial, draw_go I (by omega) (div_ok (by decide) (by decide)) fun v o2 v0 v1 I _ => ?_⟩
  generalize up h1 p o2 = h2 at I ⊢
  try simp only [u_asg, u_gN, u_ret, u_retN, u_skip, u_expr, u_ifs, u_c, u_op, u_neg, u_test, u_and, u_or, u_not, u_if, u_nil, u_cons, u_tup, u_lst, u_callP, u_call, u_b, u_chain, u_andV, u_addI, u_subI, u_mulI, u_divI, u_modI, u_powI, u_cmpI, u_eqI, u_eqS, u_eqB, u_abs, u_intI, u_intB, u_newT, u_newF, u_isN, u_notN, wVar, List.set_cons_zero, List.set_cons_succ, List.getElem?_cons_zero, List.getElem?_cons_succ, List.length_cons, List.length_nil, u_lc, u_for, u_r1, u_r2, u_r3, u_num, u_notV, u_yes, u_w0, u_w1, u_dput, u_get2, u_dget, u_prop, u_fld, u_setF, u_make, u_makeS, u_met, u_calO, u_orT, u_tupIt, u_dc, u_maxDd, u_dnew, u_tupi, ix_p0, ix_p1, wSl, woNone, woSome]
  refine ⟨by decide, trivial, draw_go I (by omega) (div_ok (by decide) (by decide)) fun w o3 w0 w1 I _ => ?_⟩
  generalize up h2 p o3 = h3 at I ⊢
  obtain ⟨y, hy, ey⟩ := at_memq (xs := [x, .int (1 + v), .int 0, .int 1]) w0 w1
  have vy : Vl y := by
    have : y = x ∨ y = .int (1 + v) ∨ y = .int 0 ∨ y = .int 1 := by simpa using hy
    rcases this with rfl | rfl | rfl | rfl
    · exact vx
    · exact vl_int (by omega)
    · exact vl_int (by decide)
    · exact vl_int (by decide)
  rw [u_ixLd ey]
  clear ey hy w0 w1 v0 v1
  obtain ⟨t, yt⟩ := vy.ty
  have H3 : MtAt z m h3 g := I.old _ _ H gp
  have hk3 : h3 k = some (.lst (m.noted.map pairD)) := I.old _ _ hk kpn
  have tb3 := I.old _ _ tb.2 tp.2
  refine seq_go (fun ρ h' => ρ = [some (.ref p), some (.ref g), some (.ref k), some (.int (m.ear.length : Nat)), some (bnD m.edge), some (.lst [.tup (m.noted.map pairD), .int (m.noted.length : Nat), .int (m.ear.length : Nat), bnD m.edge]), some y, some (.lst ((lenC m.noted y).map fun r => D.int r.2)), none, none, none] ∧ h3 = h') (fun K kk => ?_) ?_
  · simp only [u_asg, u_gN, u_ret, u_retN, u_skip, u_expr, u_ifs, u_c, u_op, u_neg, u_test, u_and, u_or, u_not, u_if, u_nil, u_cons, u_tup, u_lst, u_callP, u_call, u_b, u_chain, u_andV, u_addI, u_subI, u_mulI, u_divI, u_modI, u_powI, u_cmpI, u_eqI, u_eqS, u_eqB, u_abs, u_intI, u_intB, u_newT, u_newF, u_isN, u_notN, wVar, List.set_cons_zero, List.set_cons_succ, List.getElem?_cons_zero, List.getElem?_cons_succ, List.length_cons, List.length_nil, u_lc, u_for, u_r1, u_r2, u_r3, u_num, u_notV, u_yes, u_w0, u_w1, u_dput, u_get2, u_dget, u_prop, u_fld, u_setF, u_make, u_makeS, u_met, u_calO, u_orT, u_tupIt, u_dc, u_maxDd, u_dnew, u_tupi, ix_p0, ix_p1, wSl, woNone, woSome]
    refine seqi_go rfl (lst_ref hk3) fun st hst r hr => ?_
    refine comp_go (fun i h' => h' = up h3 r (.lst ((lenC (m.noted.take i) y).map fun r => D.int r.2))) (by rw [List.take_zero]; cases y <;> rfl) (fun i g e => e ▸ hst _ (sub_up hr)) ?_ ?_
    · rintro i x _ K9 hi rfl k9
      rw [List.getElem?_map] at hi
      obtain ⟨s, hs, rfl⟩ := Option.map_eq_some_iff.mp hi
      have tk : m.noted.take (i + 1) = m.noted.take i ++ [s] := by rw [List.take_succ, hs]; rfl
      have la : (lenC (m.noted.take i) y).length ≤ 60 := by
        have : (lenC (m.noted.take i) y).length ≤ (m.noted.take i).length := by
          cases y <;> first | exact List.length_filter_le _ _ | exact Nat.zero_le _
        rw [List.length_take] at *
        omega
      refine go_n2 ?_
      simp only [u_asg, u_gN, u_ret, u_retN, u_skip, u_expr, u_ifs, u_c, u_op, u_neg, u_test, u_and, u_or, u_not, u_if, u_nil, u_cons, u_tup, u_lst, u_callP, u_call, u_b, u_chain, u_andV, u_addI, u_subI, u_mulI, u_divI, u_modI, u_powI, u_cmpI, u_eqI, u_eqS, u_eqB, u_abs, u_intI, u_intB, u_newT, u_newF, u_isN, u_notN, wVar, List.set_cons_zero, List.set_cons_succ, List.getElem?_cons_zero, List.getElem?_cons_succ, List.length_cons, List.length_nil, u_lc, u_for, u_r1, u_r2, u_r3, u_num, u_notV, u_yes, u_w0, u_w1, u_dput, u_get2, u_dget, u_prop, u_fld, u_setF, u_make, u_makeS, u_met, u_calO, u_orT, u_tupIt, u_dc, u_maxDd, u_dnew, u_tupi, ix_p0, ix_p1, wSl, woNone, woSome]
      refine vy.eq s.1 _ _ fun b b1 b2 => ?_
      dsimp only
      rcases ty_cls (yt h) with ⟨c, rfl, rfl⟩ | ⟨c, rfl, rfl⟩ | ⟨c1, c2, no⟩
      · rw [b1 c rfl]
        by_cases cc : s.1 = c
        · rw [decide_eq_true cc, if_pos rfl]
          refine ⟨_, _, _, false, rfl, rfl, rfl, ?_⟩
          dsimp only
          rw [if_pos (by decide)]
          refine ⟨_, up_same, FM.lt_sz (by rw [List.length_map]; omega), ?_⟩
          rw [up_up]
          refine k9 _ ?_
          rw [tk]
          unfold lenC
          dsimp only
          rw [List.filter_append, List.filter_cons, if_pos (decide_eq_true cc), List.filter_nil, List.map_append]; rfl
        · rw [decide_eq_false cc, if_neg (by decide), if_neg (by decide)]
          refine k9 _ ?_
          rw [tk]
          unfold lenC
          dsimp only
          rw [List.filter_append, List.filter_cons, if_neg (by rw [decide_eq_false cc]; decide), List.filter_nil, List.append_nil]
      · have done := k9 (up h3 r (.lst ((lenC (m.noted.take i) (.bl c)).map fun r => D.int r.2))) rfl
        cases b with
        | true =>
          rw [if_pos rfl]
          refine ⟨_, _, _, true, rfl, rfl, rfl, ?_⟩
          dsimp only
          rw [if_neg (by decide)]
          exact done
        | false =>
          rw [if_neg (by decide), if_neg (by decide)]
          exact done
      · have e0 : ∀ (rs : List Rg), lenC rs y = [] := fun rs => lenC_no no
        have nb : ∀ c, y ≠ .bl c := by rintro c rfl; rw [int_bl (yt h)] at c2; cases c2
        rw [b2 no nb, if_neg (by decide), if_neg (by decide)]
        refine k9 _ ?_
        rw [e0, e0]
    · rintro _ rfl
      rw [List.length_map, List.take_length]
      exact endF hr (kk _ _ ⟨rfl, rfl⟩)
  rintro _ _ ⟨rfl, rfl⟩
  ((try dsimp only); rw [u_seq]; (try simp only [u_asg, u_gN, u_ret, u_retN, u_skip, u_expr, u_ifs, u_c, u_op, u_neg, u_test, u_and, u_or, u_not, u_if, u_nil, u_cons, u_tup, u_lst, u_callP, u_call, u_b, u_chain, u_andV, u_addI, u_subI, u_mulI, u_divI, u_modI, u_powI, u_cmpI, u_eqI, u_eqS, u_eqB, u_abs, u_intI, u_intB, u_newT, u_newF, u_isN, u_notN, wVar, List.set_cons_zero, List.set_cons_succ, List.getElem?_cons_zero, List.getElem?_cons_succ, List.length_cons, List.length_nil, u_lc, u_for, u_r1, u_r2, u_r3, u_num, u_notV, u_yes, u_w0, u_w1, u_dput, u_get2, u_dget, u_prop, u_fld, u_setF, u_make, u_makeS, u_met, u_calO, u_orT, u_tupIt, u_dc, u_maxDd, u_dnew, u_tupi, ix_p0, ix_p1, wSl, woNone, woSome]))
  have sb : ∀ g4, Sub h3 g4 → fin Q (.bl true) g4 := fun g4 s4 => by
    obtain ⟨o', r', s'⟩ := (I.mono (n := n + 10) (by omega)).sub
    exact fin_of (q o' g4 r' (s'.trans s4))
  refine ⟨tb3, ?_⟩
  unfold FM.S__law_heard
  simp only [u_ixX, u_asg, u_gN, u_ret, u_retN, u_skip, u_expr, u_ifs, u_c, u_op, u_neg, u_test, u_and, u_or, u_not, u_if, u_nil, u_cons, u_tup, u_lst, u_callP, u_call, u_b, u_chain, u_andV, u_addI, u_subI, u_mulI, u_divI, u_modI, u_powI, u_cmpI, u_eqI, u_eqS, u_eqB, u_abs, u_intI, u_intB, u_newT, u_newF, u_isN, u_notN, wVar, List.set_cons_zero, List.set_cons_succ, List.getElem?_cons_zero, List.getElem?_cons_succ, List.length_cons, List.length_nil, u_lc, u_for, u_r1, u_r2, u_r3, u_num, u_notV, u_yes, u_w0, u_w1, u_dput, u_get2, u_dget, u_prop, u_fld, u_setF, u_make, u_makeS, u_met, u_calO, u_orT, u_tupIt, u_dc, u_maxDd, u_dnew, u_tupi, ix_p0, ix_p1, wSl, woNone, woSome]
  refine ⟨H3.is, g, m, y, t, rfl, H3, ok, yt h3, fun e h4 s4 => ?_, fun u l e => ?_⟩
  · refine ⟨_, _, _, _, rfl, .nor y, ?_⟩
    have hc : hasC m.noted y = false := by
      rcases len_two (x := y) kp.nd with ⟨_, h⟩ | ⟨r, h, _⟩
      · exact h
      · rw [e] at h; cases h
    rw [e]
    ((try dsimp only); rw [u_seq]; (try simp only [u_asg, u_gN, u_ret, u_retN, u_skip, u_expr, u_ifs, u_c, u_op, u_neg, u_test, u_and, u_or, u_not, u_if, u_nil, u_cons, u_tup, u_lst, u_callP, u_call, u_b, u_chain, u_andV, u_addI, u_subI, u_mulI, u_divI, u_modI, u_powI, u_cmpI, u_eqI, u_eqS, u_eqB, u_abs, u_intI, u_intB, u_newT, u_newF, u_isN, u_notN, wVar, List.set_cons_zero, List.set_cons_succ, List.getElem?_cons_zero, List.getElem?_cons_succ, List.length_cons, List.length_nil, u_lc, u_for, u_r1, u_r2, u_r3, u_num, u_notV, u_yes, u_w0, u_w1, u_dput, u_get2, u_dget, u_prop, u_fld, u_setF, u_make, u_makeS, u_met, u_calO, u_orT, u_tupIt, u_dc, u_maxDd, u_dnew, u_tupi, ix_p0, ix_p1, wSl, woNone, woSome]))
    refine ⟨by decide, rfl, _, rfl, ?_⟩
    show (if false = true then _ else _)
    rw [if_neg (by decide)]
    have ra : Rq (.tup [.str "absent", y]) 3 1000 := rq_wk (rq_tup (k := 2) (n := 300) fun x hx => by
      rcases List.mem_cons.mp hx with rfl | hx
      · exact ⟨rfl, by rw [pq, PyData.showable], by rw [pq, PyData.depth]; exact Nat.zero_le _, by rw [pq, PyData.shown]; decide +kernel⟩
      · obtain rfl : x = y := by simpa using hx
        exact vy.rq) (by decide) (by show 3 + 2 * (300 + 2) ≤ 1000; decide)
    refine go_rq ra (by decide) (by decide) ⟨by decide, go_rq ra (by decide) (by decide) (text_same ?_)⟩
    dsimp only
    rw [if_pos rfl]
    simp only [u_inX, u_asg, u_gN, u_ret, u_retN, u_skip, u_expr, u_ifs, u_c, u_op, u_neg, u_test, u_and, u_or, u_not, u_if, u_nil, u_cons, u_tup, u_lst, u_callP, u_call, u_b, u_chain, u_andV, u_addI, u_subI, u_mulI, u_divI, u_modI, u_powI, u_cmpI, u_eqI, u_eqS, u_eqB, u_abs, u_intI, u_intB, u_newT, u_newF, u_isN, u_notN, wVar, List.set_cons_zero, List.set_cons_succ, List.getElem?_cons_zero, List.getElem?_cons_succ, List.length_cons, List.length_nil, u_lc, u_for, u_r1, u_r2, u_r3, u_num, u_notV, u_yes, u_w0, u_w1, u_dput, u_get2, u_dget, u_prop, u_fld, u_setF, u_make, u_makeS, u_met, u_calO, u_orT, u_tupIt, u_dc, u_maxDd, u_dnew, u_tupi, ix_p0, ix_p1, wSl, woNone, woSome]
    have H4 : MtAt z m h4 g := s4 _ _ H3
    refine ⟨H4.is, g, m, y, t, rfl, H4, ok, yt h4, _, rfl, ?_⟩
    rw [hc]
    exact sb h4 s4
  · have hc : hasC m.noted y = true ∧ l = [] := by
      rcases len_two (x := y) kp.nd with ⟨h, _⟩ | ⟨r, h, h2⟩
      · rw [e] at h; cases h
      · rw [e] at h; exact ⟨h2, (List.cons.inj h).2⟩
    obtain ⟨hc, rfl⟩ := hc
    rw [e]
    ((try dsimp only); rw [u_seq]; (try simp only [u_asg, u_gN, u_ret, u_retN, u_skip, u_expr, u_ifs, u_c, u_op, u_neg, u_test, u_and, u_or, u_not, u_if, u_nil, u_cons, u_tup, u_lst, u_callP, u_call, u_b, u_chain, u_andV, u_addI, u_subI, u_mulI, u_divI, u_modI, u_powI, u_cmpI, u_eqI, u_eqS, u_eqB, u_abs, u_intI, u_intB, u_newT, u_newF, u_isN, u_notN, wVar, List.set_cons_zero, List.set_cons_succ, List.getElem?_cons_zero, List.getElem?_cons_succ, List.length_cons, List.length_nil, u_lc, u_for, u_r1, u_r2, u_r3, u_num, u_notV, u_yes, u_w0, u_w1, u_dput, u_get2, u_dget, u_prop, u_fld, u_setF, u_make, u_makeS, u_met, u_calO, u_orT, u_tupIt, u_dc, u_maxDd, u_dnew, u_tupi, ix_p0, ix_p1, wSl, woNone, woSome]))
    refine ⟨by decide, rfl, _, rfl, ?_⟩
    show (if true = true then _ else _)
    rw [if_pos rfl]
    refine same_lst (xs := [.int u.2]) (k := 1) (fl_lst (k := 0) fun x hx => by
      obtain rfl : x = .int u.2 := by simpa using hx
      exact fl_int _) (by decide) ?_
    dsimp only
    rw [if_pos rfl]
    simp only [u_inX, u_asg, u_gN, u_ret, u_retN, u_skip, u_expr, u_ifs, u_c, u_op, u_neg, u_test, u_and, u_or, u_not, u_if, u_nil, u_cons, u_tup, u_lst, u_callP, u_call, u_b, u_chain, u_andV, u_addI, u_subI, u_mulI, u_divI, u_modI, u_powI, u_cmpI, u_eqI, u_eqS, u_eqB, u_abs, u_intI, u_intB, u_newT, u_newF, u_isN, u_notN, wVar, List.set_cons_zero, List.set_cons_succ, List.getElem?_cons_zero, List.getElem?_cons_succ, List.length_cons, List.length_nil, u_lc, u_for, u_r1, u_r2, u_r3, u_num, u_notV, u_yes, u_w0, u_w1, u_dput, u_get2, u_dget, u_prop, u_fld, u_setF, u_make, u_makeS, u_met, u_calO, u_orT, u_tupIt, u_dc, u_maxDd, u_dnew, u_tupi, ix_p0, ix_p1, wSl, woNone, woSome]
    refine ⟨H3.is, g, m, y, t, rfl, H3, ok, yt h3, _, rfl, ?_⟩
    rw [hc]
    exact sb h3 (Sub.refl _)
end K71
namespace FM
open PySem PySem.Spec L2 C8 DL
theorem p__law_pen (z : Ad) : ∀ ds h Q X, S__law_pen z ds h Q X → w__law_pen z (endsD Q X) (startD 1 ds) h := p_pen
theorem p__law_draw (z : Ad) : ∀ ds h Q X, S__law_draw z ds h Q X → w__law_draw z (endsD Q X) (startD 7 ds) h := p_draw
end FM
namespace K71
open PySem PySem.Spec L2 C8 DL PK FM
theorem lenS_le {g : Int} {zs : List (Int × Int)} {w : Int} (so : SrcOk g zs) (h1 : 1 ≤ w) (h2 : w ≤ 10000) : (lenS g zs w).natAbs ≤ 10 ^ 30 := by
  have key : ∀ (l : List (Int × Int)), (∀ e ∈ l, 1 ≤ e.1 ∧ e.1 ≤ 400 ∧ -30 ≤ e.2 ∧ e.2 ≤ 30) → ((l.map fun p => p.2 * (p.1 % w)).sum).natAbs ≤ l.length * 12000 := by
    intro l
    induction l with
    | nil => intro _; exact Nat.le_refl _
    | cons e l ih =>
      intro h
      have i := ih fun x hx => h x (List.mem_cons_of_mem _ hx)
      obtain ⟨a1, a2, a3, a4⟩ := h e (List.mem_cons_self ..)
      have b1 := Int.emod_nonneg e.1 (show w ≠ 0 by omega)
      have b3 := Int.emod_lt_of_pos e.1 (show 0 < w by omega)
      have b2 : e.1 % w ≤ 400 := by
        by_cases c : e.1 < w
        · rw [Int.emod_eq_of_lt (by omega) c]; exact a2
        · omega
      have m : (e.2 * (e.1 % w)).natAbs ≤ 12000 := by
        rw [Int.natAbs_mul]
        exact Nat.mul_le_mul (show e.2.natAbs ≤ 30 by omega) (show (e.1 % w).natAbs ≤ 400 by omega)
      rw [List.map_cons, List.sum_cons, List.length_cons]
      omega
  have k := key zs so.rw_
  have l := so.ln
  have g0 := so.g0
  have g1 := so.g1
  have e29 : (10 : Int) ^ 29 = 100000000000000000000000000000 := by decide
  have e30 : (10 : Nat) ^ 30 = 1000000000000000000000000000000 := by decide
  unfold lenS
  omega
/-- one reading more -/
theorem kp_tk {m : Mt} {c l : Int} (kp : Kp m.noted) (hn : fstN m.noted m.edge (c, l) = none) (c1 : 1 ≤ c) (c2 : c ≤ 10000) (l1 : 0 ≤ l) (l2 : l ≤ 10 ^ 30) (ln : m.noted.length ≤ 59) :
    Kp (tk m (c, l)).noted ∧ (tk m (c, l)).noted = (if (c, l) ∈ m.noted then m.noted else m.noted ++ [(c, l)]) ∧ (tk m (c, l)).noted.length ≤ m.noted.length + 1 := by
  have e : (tk m (c, l)).noted = (if (c, l) ∈ m.noted then m.noted else m.noted ++ [(c, l)]) := by
    show (if hasC m.noted (.int c) = true then m.noted else m.noted ++ [(c, l)]) = _
    by_cases h : (c, l) ∈ m.noted
    · rw [if_pos h, if_pos ((has_in hn).mpr h)]
    · rw [if_neg h, if_neg fun x => h ((has_in hn).mp x)]
  refine ⟨?_, e, ?_⟩
  · rw [e]
    by_cases h : (c, l) ∈ m.noted
    · rw [if_pos h]; exact kp
    · rw [if_neg h]
      refine ⟨by rw [List.length_append]; show _ + 1 ≤ 60; omega, fun r hr => ?_, fun r hr => ?_, ?_⟩
      · rcases List.mem_append.mp hr with hr | hr
        · exact kp.c1 r hr
        · obtain rfl : r = (c, l) := by simpa using hr
          exact ⟨c1, c2⟩
      · rcases List.mem_append.mp hr with hr | hr
        · exact kp.c2 r hr
        · obtain rfl : r = (c, l) := by simpa using hr
          exact ⟨l1, l2⟩
      · rw [List.map_append, List.nodup_append]
        refine ⟨kp.nd, by simp, fun a ha b hb e => ?_⟩
        have hb : b = c := by simpa using hb
        obtain ⟨r, hr, e2⟩ := List.mem_map.mp ha
        have e3 : r.1 = c := by rw [e2, e, hb]
        have := fst_none hn r hr
        rw [agr_own (s := (c, l)) e3] at this
        have := of_decide_eq_true this
        exact h ((show r = (c, l) from Prod.ext e3 (by show r.2 = l; have : r.2 - l = 0 := this; omega)) ▸ hr)
  · rw [e]
    split
    · omega
    · rw [List.length_append]; exact Nat.le_refl _
theorem kp_nil : Kp [] := ⟨Nat.zero_le _, (fun r hr => by cases hr), (fun r hr => by cases hr), List.nodup_nil⟩
/-- what a meter says to a reading is what is due -/
theorem add_go {z : Ad} {g : Addr} {m : Mt} {x y : D} {h : AH} {Q : KD} {X : KX} (vx : Vl x) (vy : Vl y) (H : MtAt z m h g) (ok : MOk m) (kp : Kp m.noted)
    (bad : ∀ C fs n us, Hrd z C fs n (.tup us) → dueA m.noted m.edge x y = (.tup us, m.noted) → Rq (.tup us) 3 1000 → ∀ h', Sub h h' → X (.own C fs) h')
    (good : ∀ c l, x = .int c → y = .int l → 1 ≤ c → c ≤ 10000 → 0 ≤ l → l ≤ 10 ^ 30 → fstN m.noted m.edge (c, l) = none → (dueA m.noted m.edge x y).1 = .lst [.non] → (dueA m.noted m.edge x y).2 = (if (c, l) ∈ m.noted then m.noted else m.noted ++ [(c, l)]) → Q .non (putM z h g (tk m (c, l)))) :
    S_Meter_add z [.ref g, x, y] h Q X := by
  obtain ⟨t, ht⟩ := vx.ty
  obtain ⟨u, hu⟩ := vy.ty
  have two : ∀ {w : Str} {v : D}, (PyData.str w).shown.length ≤ 300 → Rq v 2 300 → Rq (.tup [.str w, v]) 3 1000 := fun {w v} hw r => rq_wk (rq_tup (k := 2) (n := 300) fun a ha => by
    rcases List.mem_cons.mp ha with rfl | ha
    · exact ⟨rfl, by rw [pq, PyData.showable], by rw [pq, PyData.depth]; exact Nat.zero_le _, by rw [pq]; exact hw⟩
    · obtain rfl : a = v := by simpa using ha
      exact r) (by decide) (by show 3 + 2 * (300 + 2) ≤ 1000; decide)
  refine ⟨g, m, x, y, t, u, rfl, H, ok, ht h, hu h, fun c => ?_, fun c c2 => ?_, fun c l e1 e2 i1 i2 i3 i4 => ?_⟩
  · exact bad _ _ _ _ (.cap x) (by unfold dueA; rw [if_pos c]) (two (by rw [PyData.shown]; decide +kernel) vx.rq)
  · exact bad _ _ _ _ (.red y) (by unfold dueA; rw [if_neg (by rw [c]; decide), if_pos c2]) (two (by rw [PyData.shown]; decide +kernel) vy.rq)
  · subst e1 e2
    have b1 : btw (.int c) 1 10000 = true := by
      show (decide (1 ≤ c) && decide (c ≤ 10000)) = true
      rw [decide_eq_true i1, decide_eq_true i2]; rfl
    have b2 : btw (.int l) 0 (10 ^ 30) = true := by
      show (decide (0 ≤ l) && decide (l ≤ 10 ^ 30)) = true
      rw [decide_eq_true i3, decide_eq_true i4]; rfl
    have ed : dueA m.noted m.edge (.int c) (.int l) = (match fstN m.noted m.edge (c, l) with
      | some r => (.tup [.str "against", .int r.1, .int c], m.noted)
      | none => (.lst [.non], if (c, l) ∈ m.noted then m.noted else m.noted ++ [(c, l)])) := by
      unfold dueA
      exact (if_neg (by rw [b1]; decide)).trans (if_neg (by rw [b2]; decide))
    refine ⟨fun r hr => ?_, fun hn => ?_⟩
    · have rm : r ∈ m.noted := List.mem_of_find?_eq_some hr
      have r1 := kp.c1 r rm
      exact bad _ _ _ _ (.con (.int r.1) (.int c)) (by rw [ed, hr]) (rq_wk (rq_tup (k := 2) (n := 300) fun a ha => by
        have ha : a = .str "against" ∨ a = .int r.1 ∨ a = .int c := by simpa using ha
        rcases ha with rfl | rfl | rfl
        · exact ⟨rfl, by rw [pq, PyData.showable], by rw [pq, PyData.depth]; exact Nat.zero_le _, by rw [pq, PyData.shown]; decide +kernel⟩
        · exact (vl_int (i := r.1) (by omega)).rq
        · exact (vl_int (i := c) (by omega)).rq) (by decide) (by show 3 + 3 * (300 + 2) ≤ 1000; decide))
    · exact good c l rfl rfl i1 i2 i3 i4 hn (by rw [ed, hn]) (by rw [ed, hn])
/-- a meter beside what is kept -/
structure Stt (z : Ad) (h0 : AH) (p g k : Addr) (m : Mt) (n : Int) (h : AH) : Prop where
  iv : Inv0 h0 p n h
  mt : MtAt z m h g
  kk : h k = some (.lst (m.noted.map pairD))
theorem Stt.draw {z : Ad} {h0 h : AH} {p g k : Addr} {m : Mt} {n n2 : Int} {o : AO} (S : Stt z h0 p g k m n h) (gp : g ≠ p) (kp : k ≠ p) (po : PenO n2 o) : Stt z h0 p g k m n2 (up h p o) :=
  ⟨S.iv.draw po, by unfold MtAt; rw [up_ne gp]; exact S.mt, by rw [up_ne kp]; exact S.kk⟩
theorem Stt.mono {z : Ad} {h0 h : AH} {p g k : Addr} {m : Mt} {n n2 : Int} (S : Stt z h0 p g k m n h) (l : n ≤ n2) : Stt z h0 p g k m n2 h := ⟨S.iv.mono l, S.mt, S.kk⟩
theorem draw_st {z : Ad} {h0 h : AH} {p g k : Addr} {m : Mt} {n c : Int} {Q : KD} {X : KX} (S : Stt z h0 p g k m n h) (gp : g ≠ p) (kp : k ≠ p) (lm : n < 1000000) (dc : DivOk c) (q : ∀ v h2, 0 ≤ v → v < c → Stt z h0 p g k m (n + 1) h2 → Q (.int v) h2) : S_draw [.ref p, .int c] h Q X :=
  ⟨n, p, c, rfl, S.iv.pen, lm, dc, fun v o h1 h2 r => q v _ h1 h2 (S.draw gp kp r)⟩
def bdL (v : Int) : List D := [.non, .non, .int v, .int 10000]
theorem mk_go {z : Ad} {e : Option Int} {h : AH} {Q : KD} {X : KX} {a : Addr} (hb : isBd (bnD e) = true) (q : Q (.ref a) (putM z h a ⟨[], e, []⟩)) :
    S_Meter___init__ z [.ref a, bnD e] (up h a (.ins z.Meter [])) (fun v h2 => v = .non ∧ newI true z.Meter a Q h2) X := by
  obtain ⟨t, ht⟩ : ∃ t, ∀ h, tyD h (bnD e) = some t := by cases e <;> exact ⟨_, fun _ => rfl⟩
  refine ⟨a, bnD e, t, rfl, up_same, ht _, fun _ => ⟨rfl, _, up_same, ?_⟩, fun c => by rw [hb] at c; cases c⟩
  rw [if_pos rfl, up_up]
  exact q
theorem btw_c {c : Int} (i1 : 1 ≤ c) (i2 : c ≤ 10000) : btw (.int c) 1 10000 = true := by
  show (decide (1 ≤ c) && decide (c ≤ 10000)) = true
  rw [decide_eq_true i1, decide_eq_true i2]; rfl
theorem btw_l {l : Int} (i3 : 0 ≤ l) (i4 : l ≤ 10 ^ 30) : btw (.int l) 0 (10 ^ 30) = true := by
  show (decide (0 ≤ l) && decide (l ≤ 10 ^ 30)) = true
  rw [decide_eq_true i3, decide_eq_true i4]; rfl
theorem add_one {z : Ad} {g : Addr} {m : Mt} {c l : Int} {h : AH} {Q : KD} {X : KX} (H : MtAt z m h g) (ok : MOk m) (i1 : 1 ≤ c) (i2 : c ≤ 10000) (i3 : 0 ≤ l) (i4 : l ≤ 10 ^ 30) (hn : fstN m.noted m.edge (c, l) = none) (q : Q .non (putM z h g (tk m (c, l)))) : S_Meter_add z [.ref g, .int c, .int l] h Q X := by
  refine ⟨g, m, _, _, _, _, rfl, H, ok, rfl, rfl, fun e => ?_, fun _ e => ?_, fun c' l' e1 e2 _ _ _ _ => ?_⟩
  · rw [btw_c i1 i2] at e; cases e
  · rw [btw_l i3 i4] at e; cases e
  · cases e1; cases e2
    refine ⟨fun r hr => ?_, fun _ => q⟩
    rw [hn] at hr; cases hr
theorem add_bad {z : Ad} {g : Addr} {m : Mt} {c l : Int} {r : Rg} {h : AH} {Q : KD} {X : KX} (H : MtAt z m h g) (ok : MOk m) (i1 : 1 ≤ c) (i2 : c ≤ 10000) (i3 : 0 ≤ l) (i4 : l ≤ 10 ^ 30) (hn : fstN m.noted m.edge (c, l) = some r) (q : ∀ h', Sub h h' → X (eCon z (.int r.1) (.int c)) h') : S_Meter_add z [.ref g, .int c, .int l] h Q X := by
  refine ⟨g, m, _, _, _, _, rfl, H, ok, rfl, rfl, fun e => ?_, fun _ e => ?_, fun c' l' e1 e2 _ _ _ _ => ?_⟩
  · rw [btw_c i1 i2] at e; cases e
  · rw [btw_l i3 i4] at e; cases e
  · cases e1; cases e2
    refine ⟨fun r' hr => ?_, fun hr => ?_⟩
    · rw [hn] at hr; cases hr; exact q
    · rw [hn] at hr; cases hr
theorem p_law (z : Ad) : ∀ ds h Q X, S_law z ds h Q X → w_law z (endsD Q X) (startD 13 ds) h := by
  rintro ds h Q X ⟨js, rfl, tb, q⟩
  show w_law z (endsD Q X) [some (.lk (js.map D.int)), none, none, none, none, none, none, none, none, none, none, none, none] h
  unfold w_law
  ((try dsimp only); rw [u_seq]; (try simp only [u_asg, u_gN, u_ret, u_retN, u_skip, u_expr, u_ifs, u_c, u_op, u_neg, u_test, u_and, u_or, u_not, u_if, u_nil, u_cons, u_tup, u_lst, u_callP, u_call, u_b, u_chain, u_andV, u_addI, u_subI, u_mulI, u_divI, u_modI, u_powI, u_cmpI, u_eqI, u_eqS, u_eqB, u_abs, u_intI, u_intB, u_newT, u_newF, u_isN, u_notN, wVar, List.set_cons_zero, List.set_cons_succ, List.getElem?_cons_zero, List.getElem?_cons_succ, List.length_cons, List.length_nil, u_lc, u_for, u_r1, u_r2, u_r3, u_num, u_notV, u_yes, u_w0, u_w1, u_dput, u_get2, u_dget, u_prop, u_fld, u_setF, u_make, u_makeS, u_met, u_calO, u_orT, u_tupIt, u_dc, u_maxDd, u_dnew, u_tupi, ix_p0, ix_p1, wSl, woNone, woSome]))
  refine ⟨trivial, js, rfl, fun p o hp r0 => ?_⟩
  have tp : z.t0 ≠ p ∧ z.t1 ≠ p := ⟨fun e => (by have := tb.1; rw [e, hp] at this; cases this), fun e => (by have := tb.2; rw [e, hp] at this; cases this)⟩
  have tb : Tb z (up h p o) := ⟨by rw [up_ne tp.1]; exact tb.1, by rw [up_ne tp.2]; exact tb.2⟩
  have I : PenAt 0 (up h p o) p := ⟨o, up_same, r0⟩
  generalize up h p o = h at I tb ⊢
  replace I := Inv0.start I
  refine seq_go (fun ρ h' => ∃ a2 a3 a4 a5 a6 a7 a8 a9 a10 a11 a12, ρ = [some (.lk (js.map D.int)), some (.ref p), a2, a3, a4, a5, a6, a7, a8, a9, a10, a11, a12] ∧ Inv0 h p 9000 h') (fun K k => ?_) ?_
  · simp only [u_asg, u_gN, u_ret, u_retN, u_skip, u_expr, u_ifs, u_c, u_op, u_neg, u_test, u_and, u_or, u_not, u_if, u_nil, u_cons, u_tup, u_lst, u_callP, u_call, u_b, u_chain, u_andV, u_addI, u_subI, u_mulI, u_divI, u_modI, u_powI, u_cmpI, u_eqI, u_eqS, u_eqB, u_abs, u_intI, u_intB, u_newT, u_newF, u_isN, u_notN, wVar, List.set_cons_zero, List.set_cons_succ, List.getElem?_cons_zero, List.getElem?_cons_succ, List.length_cons, List.length_nil, u_lc, u_for, u_r1, u_r2, u_r3, u_num, u_notV, u_yes, u_w0, u_w1, u_dput, u_get2, u_dget, u_prop, u_fld, u_setF, u_make, u_makeS, u_met, u_calO, u_orT, u_tupIt, u_dc, u_maxDd, u_dnew, u_tupi, ix_p0, ix_p1, wSl, woNone, woSome]
    refine ⟨by decide, by decide, ?_⟩
    refine loop_go (fun i ρ h' => ∃ a2 a3 a4 a5 a6 a7 a8 a9 a10 a11 a12, ρ = [some (.lk (js.map D.int)), some (.ref p), a2, a3, a4, a5, a6, a7, a8, a9, a10, a11, a12] ∧ Inv0 h p (3000 * i) h') ⟨_, _, _, _, _, _, _, _, _, _, _, rfl, by simpa using I⟩ (fun _ _ _ _ => trivial) ?_ ?_
    · rintro t x _ g1 K9 hi ⟨a2, a3, a4, a5, a6, a7, a8, a9, a10, a11, a12, rfl, I⟩ k9
      obtain ⟨rfl, lt⟩ := intsD_get hi
      have lt : t < 3 := lt
      rw [u_gN]
      dsimp only [List.set_cons_zero, List.set_cons_succ]
      ((try dsimp only); rw [u_seq]; (try simp only [u_asg, u_gN, u_ret, u_retN, u_skip, u_expr, u_ifs, u_c, u_op, u_neg, u_test, u_and, u_or, u_not, u_if, u_nil, u_cons, u_tup, u_lst, u_callP, u_call, u_b, u_chain, u_andV, u_addI, u_subI, u_mulI, u_divI, u_modI, u_powI, u_cmpI, u_eqI, u_eqS, u_eqB, u_abs, u_intI, u_intB, u_newT, u_newF, u_isN, u_notN, wVar, List.set_cons_zero, List.set_cons_succ, List.getElem?_cons_zero, List.getElem?_cons_succ, List.length_cons, List.length_nil, u_lc, u_for, u_r1, u_r2, u_r3, u_num, u_notV, u_yes, u_w0, u_w1, u_dput, u_get2, u_dget, u_prop, u_fld, u_setF, u_make, u_makeS, u_met, u_calO, u_orT, u_tupIt, u_dc, u_maxDd, u_dnew, u_tupi, ix_p0, ix_p1, wSl, woNone, woSome]))
      refine ⟨trivial, draw_go I (by omega) (div_ok (by decide) (by decide)) fun v o v0 v1 I _ => ?_⟩
      generalize up g1 p o = g1 at I ⊢
      try simp only [u_asg, u_gN, u_ret, u_retN, u_skip, u_expr, u_ifs, u_c, u_op, u_neg, u_test, u_and, u_or, u_not, u_if, u_nil, u_cons, u_tup, u_lst, u_callP, u_call, u_b, u_chain, u_andV, u_addI, u_subI, u_mulI, u_divI, u_modI, u_powI, u_cmpI, u_eqI, u_eqS, u_eqB, u_abs, u_intI, u_intB, u_newT, u_newF, u_isN, u_notN, wVar, List.set_cons_zero, List.set_cons_succ, List.getElem?_cons_zero, List.getElem?_cons_succ, List.length_cons, List.length_nil, u_lc, u_for, u_r1, u_r2, u_r3, u_num, u_notV, u_yes, u_w0, u_w1, u_dput, u_get2, u_dget, u_prop, u_fld, u_setF, u_make, u_makeS, u_met, u_calO, u_orT, u_tupIt, u_dc, u_maxDd, u_dnew, u_tupi, ix_p0, ix_p1, wSl, woNone, woSome]
      refine ⟨⟨by decide, by decide, by decide⟩, by decide, trivial, draw_go I (by omega) (div_ok (by decide) (by decide)) fun w o w0 w1 I _ => ?_⟩
      generalize up g1 p o = g1 at I ⊢
      obtain ⟨y, hy, ey⟩ := at_memq (xs := bdL v) w0 w1
      obtain ⟨e, rfl, he⟩ : ∃ e : Option Int, y = bnD e ∧ ∀ b, e = some b → 0 ≤ b ∧ b ≤ 10000 := by
        have : y = .non ∨ y = .int v ∨ y = .int 10000 := by simpa [bdL] using hy
        rcases this with rfl | rfl | rfl
        · exact ⟨none, rfl, fun b h => by cases h⟩
        · exact ⟨some v, rfl, fun b h => by cases h; omega⟩
        · exact ⟨some 10000, rfl, fun b h => by cases h; omega⟩
      show dIx (.lst (bdL v)) (.int w) g1 _
      rw [u_ixLd ey]
      clear ey hy w0 w1 v0 v1
      have hb : isBd (bnD e) = true := by
        cases e with
        | none => rfl
        | some b =>
          have := he b rfl
          show (decide (0 ≤ b) && decide (b ≤ 10000)) = true
          rw [decide_eq_true this.1, decide_eq_true this.2]; rfl
      refine seq_go (fun ρ h' => ∃ g, ρ = [some (.lk (js.map D.int)), some (.ref p), some (.int (0 + (t : Nat))), some (bnD e), some (.ref g), a5, a6, a7, a8, a9, a10, a11, a12] ∧ h g = none ∧ g ≠ p ∧ Inv0 h p (3000 * t + 2) h' ∧ MtAt z ⟨[], e, []⟩ h' g) (fun K2 k2 => ?_) ?_
      · have made : ∀ a, g1 a = none → K2 [some (.lk (js.map D.int)), some (.ref p), some (.int (0 + (t : Nat))), some (bnD e), some (.ref a), a5, a6, a7, a8, a9, a10, a11, a12] (putM z g1 a ⟨[], e, []⟩) := fun a ha => by
          have a0 := I.fresh ha
          exact k2 _ _ ⟨a, rfl, a0.1, a0.2, (I.new (o := .ins z.Meter (mtF ⟨[], e, []⟩)) ha).mono (by omega), up_same⟩
        simp only [u_makeM, u_asg, u_gN, u_ret, u_retN, u_skip, u_expr, u_ifs, u_c, u_op, u_neg, u_test, u_and, u_or, u_not, u_if, u_nil, u_cons, u_tup, u_lst, u_callP, u_call, u_b, u_chain, u_andV, u_addI, u_subI, u_mulI, u_divI, u_modI, u_powI, u_cmpI, u_eqI, u_eqS, u_eqB, u_abs, u_intI, u_intB, u_newT, u_newF, u_isN, u_notN, wVar, List.set_cons_zero, List.set_cons_succ, List.getElem?_cons_zero, List.getElem?_cons_succ, List.length_cons, List.length_nil, u_lc, u_for, u_r1, u_r2, u_r3, u_num, u_notV, u_yes, u_w0, u_w1, u_dput, u_get2, u_dget, u_prop, u_fld, u_setF, u_make, u_makeS, u_met, u_calO, u_orT, u_tupIt, u_dc, u_maxDd, u_dnew, u_tupi, ix_p0, ix_p1, wSl, woNone, woSome]
        cases e with
        | none =>
          rw [isN_yes]
          dsimp only [bnD, nonB]
          rw [if_pos rfl]
          exact ⟨trivial, trivial, fun a ha => mk_go (e := none) hb (made a ha)⟩
        | some b =>
          rw [isN_yes]
          dsimp only [bnD, nonB]
          rw [if_neg (by decide)]
          exact ⟨trivial, trivial, fun a ha => mk_go (e := some b) hb (made a ha)⟩
      rintro _ g2 ⟨g, rfl, g0, gp, I, H⟩
      rw [u_seq, u_par3]
      simp only [u_asg, u_gN, u_ret, u_retN, u_skip, u_expr, u_ifs, u_c, u_op, u_neg, u_test, u_and, u_or, u_not, u_if, u_nil, u_cons, u_tup, u_lst, u_callP, u_call, u_b, u_chain, u_andV, u_addI, u_subI, u_mulI, u_divI, u_modI, u_powI, u_cmpI, u_eqI, u_eqS, u_eqB, u_abs, u_intI, u_intB, u_newT, u_newF, u_isN, u_notN, wVar, List.set_cons_zero, List.set_cons_succ, List.getElem?_cons_zero, List.getElem?_cons_succ, List.length_cons, List.length_nil, u_lc, u_for, u_r1, u_r2, u_r3, u_num, u_notV, u_yes, u_w0, u_w1, u_dput, u_get2, u_dget, u_prop, u_fld, u_setF, u_make, u_makeS, u_met, u_calO, u_orT, u_tupIt, u_dc, u_maxDd, u_dnew, u_tupi, ix_p0, ix_p1, wSl, woNone, woSome]
      refine ⟨by decide, fun k hk => ?_⟩
      have k0 := I.fresh hk
      have gk : g ≠ k := by rintro rfl; unfold MtAt at H; rw [hk] at H; cases H
      replace I := I.new (o := .lst []) hk
      have hk1 : (up g2 k (.lst [])) k = some (.lst (([] : List Rg).map pairD)) := up_same
      have H1 : MtAt z ⟨[], e, []⟩ (up g2 k (.lst [])) g := by unfold MtAt; rw [up_ne gk]; exact H
      generalize up g2 k (.lst []) = g2 at I hk1 H1 ⊢
      refine ⟨trivial, _, p, rfl, I.pen, by omega, fun G zs o so po => ?_⟩
      have hk2 : (up g2 p o) k = _ := (up_ne k0.2).trans hk1
      have H2 : MtAt z ⟨[], e, []⟩ (up g2 p o) g := by unfold MtAt; rw [up_ne gp]; exact H1
      replace I := I.draw po
      generalize up g2 p o = g2 at I hk2 H2 ⊢
      refine ⟨_, _, _, rfl, ?_⟩
      try simp only [List.set_cons_zero, List.set_cons_succ]
      obtain ⟨N, eN, lN⟩ : ∃ N : Nat, atI [D.int 45, .int 9, .int 5] (0 + (t : Nat)) = some (.int (N : Nat)) ∧ N ≤ 45 := by
        have : t = 0 ∨ t = 1 ∨ t = 2 := by omega
        rcases this with rfl | rfl | rfl
        · exact ⟨45, rfl, by omega⟩
        · exact ⟨9, rfl, by omega⟩
        · exact ⟨5, rfl, by omega⟩
      refine ⟨by decide, ?_⟩
      rw [u_ixLd eN]
      dsimp only
      refine ⟨by omega, by omega, ?_⟩
      rw [Int.toNat_natCast]
      refine loop_go (fun i ρ h' => ∃ m a8 a9 a10 a11 a12, ρ = [some (.lk (js.map D.int)), some (.ref p), some (.int (0 + (t : Nat))), some (bnD e), some (.ref g), some (.ref k), some (.int (m.ear.length : Nat)), some (srcD G zs), a8, a9, a10, a11, a12] ∧ Inv0 h p (3000 * t + 100 + 60 * i) h' ∧ MtAt z m h' g ∧ h' k = some (.lst (m.noted.map pairD)) ∧ m.edge = e ∧ Kp m.noted ∧ m.noted.length ≤ i ∧ m.ear.length ≤ i) ⟨⟨[], e, []⟩, a8, a9, a10, a11, a12, rfl, I.mono (by omega), H2, hk2, rfl, kp_nil, Nat.le_refl _, Nat.le_refl _⟩ (fun _ _ _ _ => trivial) ?_ ?_
      · rintro i x _ g3 K3 hi ⟨m, a8, a9, a10, a11, a12, rfl, I, H3, hk3, em, kp, ln, le⟩ k3
        obtain ⟨rfl, li⟩ := intsD_get hi
        have li : i < N := li
        rw [u_gN]
        dsimp only [List.set_cons_zero, List.set_cons_succ]
        ((try dsimp only); rw [u_seq]; (try simp only [u_asg, u_gN, u_ret, u_retN, u_skip, u_expr, u_ifs, u_c, u_op, u_neg, u_test, u_and, u_or, u_not, u_if, u_nil, u_cons, u_tup, u_lst, u_callP, u_call, u_b, u_chain, u_andV, u_addI, u_subI, u_mulI, u_divI, u_modI, u_powI, u_cmpI, u_eqI, u_eqS, u_eqB, u_abs, u_intI, u_intB, u_newT, u_newF, u_isN, u_notN, wVar, List.set_cons_zero, List.set_cons_succ, List.getElem?_cons_zero, List.getElem?_cons_succ, List.length_cons, List.length_nil, u_lc, u_for, u_r1, u_r2, u_r3, u_num, u_notV, u_yes, u_w0, u_w1, u_dput, u_get2, u_dget, u_prop, u_fld, u_setF, u_make, u_makeS, u_met, u_calO, u_orT, u_tupIt, u_dc, u_maxDd, u_dnew, u_tupi, ix_p0, ix_p1, wSl, woNone, woSome]))
        refine ⟨trivial, _, p, G, zs, rfl, so, I.pen, by omega, fun w ge o w1 w2 ge1 ge2 po => ?_⟩
        have hk3 : (up g3 p o) k = _ := (up_ne k0.2).trans hk3
        have H3 : MtAt z m (up g3 p o) g := by unfold MtAt; rw [up_ne gp]; exact H3
        replace I := I.draw po
        generalize up g3 p o = g3 at I hk3 H3 ⊢
        have lb := lenS_le so w1 w2
        have vx0 : Vl (.int w) := vl_int (by omega)
        have e30 : (10 : Nat) ^ 30 = 1000000000000000000000000000000 := by decide
        have e210 : (2 : Nat) ^ 210 = 1645504557321206042154969182557350504982735865633579863348609024 := by decide
        have vy0 : Vl (.int (lenS G zs w + ge)) := vl_int (by omega)
        refine ⟨_, rfl, rfl, _, _, rfl, _, _, rfl, rfl, ?_⟩
        dsimp only [List.set_cons_zero, List.set_cons_succ]
        have S0 : Stt z h p g k m (3000 * t + 100 + 60 * i + 20) g3 := ⟨I, H3, hk3⟩
        clear I H3 hk3
        refine seq_go (fun ρ h' => ∃ x, Vl x ∧ ρ = [some (.lk (js.map D.int)), some (.ref p), some (.int (0 + (t : Nat))), some (bnD e), some (.ref g), some (.ref k), some (.int (m.ear.length : Nat)), some (srcD G zs), some (.int (0 + (i : Nat))), some x, some (.int (lenS G zs w + ge)), a11, a12] ∧ Stt z h p g k m (3000 * t + 100 + 60 * i + 23) h') (fun K4 k4 => ?_) ?_
        · simp only [u_asg, u_gN, u_ret, u_retN, u_skip, u_expr, u_ifs, u_c, u_op, u_neg, u_test, u_and, u_or, u_not, u_if, u_nil, u_cons, u_tup, u_lst, u_callP, u_call, u_b, u_chain, u_andV, u_addI, u_subI, u_mulI, u_divI, u_modI, u_powI, u_cmpI, u_eqI, u_eqS, u_eqB, u_abs, u_intI, u_intB, u_newT, u_newF, u_isN, u_notN, wVar, List.set_cons_zero, List.set_cons_succ, List.getElem?_cons_zero, List.getElem?_cons_succ, List.length_cons, List.length_nil, u_lc, u_for, u_r1, u_r2, u_r3, u_num, u_notV, u_yes, u_w0, u_w1, u_dput, u_get2, u_dget, u_prop, u_fld, u_setF, u_make, u_makeS, u_met, u_calO, u_orT, u_tupIt, u_dc, u_maxDd, u_dnew, u_tupi, ix_p0, ix_p1, wSl, woNone, woSome]
          refine ⟨trivial, draw_st S0 gp k0.2 (by omega) (div_ok (by decide) (by decide)) fun v h4 v0 v1 S1 => ?_⟩
          try simp only [u_asg, u_gN, u_ret, u_retN, u_skip, u_expr, u_ifs, u_c, u_op, u_neg, u_test, u_and, u_or, u_not, u_if, u_nil, u_cons, u_tup, u_lst, u_callP, u_call, u_b, u_chain, u_andV, u_addI, u_subI, u_mulI, u_divI, u_modI, u_powI, u_cmpI, u_eqI, u_eqS, u_eqB, u_abs, u_intI, u_intB, u_newT, u_newF, u_isN, u_notN, wVar, List.set_cons_zero, List.set_cons_succ, List.getElem?_cons_zero, List.getElem?_cons_succ, List.length_cons, List.length_nil, u_lc, u_for, u_r1, u_r2, u_r3, u_num, u_notV, u_yes, u_w0, u_w1, u_dput, u_get2, u_dget, u_prop, u_fld, u_setF, u_make, u_makeS, u_met, u_calO, u_orT, u_tupIt, u_dc, u_maxDd, u_dnew, u_tupi, ix_p0, ix_p1, wSl, woNone, woSome]
          by_cases c : v = 0
          · rw [if_pos (decide_eq_true c)]
            refine ⟨trivial, _, p, rfl, S1.iv.pen, by omega, fun x o vx po => ?_⟩
            have S2 := S1.draw gp k0.2 po
            generalize up h4 p o = h4 at S2 ⊢
            dsimp only
            refine ⟨⟨by decide, by decide, by decide⟩, ⟨by decide, by decide, by decide⟩, by decide, trivial, draw_st S2 gp k0.2 (by omega) (div_ok (by decide) (by decide)) fun v h5 v0 v1 S3 => ?_⟩
            obtain ⟨y, hy, ey⟩ := at_memq (xs := [x, .int 0, .int (10 ^ Int.toNat 4 + 1), .int (10 ^ Int.toNat 4)]) v0 v1
            rw [u_ixLd ey]
            refine k4 _ _ ⟨y, ?_, rfl, S3.mono (by omega)⟩
            have : y = x ∨ y = .int 0 ∨ y = .int (10 ^ Int.toNat 4 + 1) ∨ y = .int (10 ^ Int.toNat 4) := by simpa using hy
            rcases this with rfl | rfl | rfl | rfl
            · exact vx
            · exact vl_int (by decide)
            · exact vl_int (by decide)
            · exact vl_int (by decide)
          · rw [if_neg (by rw [decide_eq_false c]; decide)]
            exact k4 _ _ ⟨_, vx0, rfl, S1.mono (by omega)⟩
        rintro _ h4 ⟨x, vx, rfl, S0⟩
        clear vx0
        refine seq_go (fun ρ h' => ∃ y, Vl y ∧ ρ = [some (.lk (js.map D.int)), some (.ref p), some (.int (0 + (t : Nat))), some (bnD e), some (.ref g), some (.ref k), some (.int (m.ear.length : Nat)), some (srcD G zs), some (.int (0 + (i : Nat))), some x, some y, a11, a12] ∧ Stt z h p g k m (3000 * t + 100 + 60 * i + 26) h') (fun K4 k4 => ?_) ?_
        · simp only [u_asg, u_gN, u_ret, u_retN, u_skip, u_expr, u_ifs, u_c, u_op, u_neg, u_test, u_and, u_or, u_not, u_if, u_nil, u_cons, u_tup, u_lst, u_callP, u_call, u_b, u_chain, u_andV, u_addI, u_subI, u_mulI, u_divI, u_modI, u_powI, u_cmpI, u_eqI, u_eqS, u_eqB, u_abs, u_intI, u_intB, u_newT, u_newF, u_isN, u_notN, wVar, List.set_cons_zero, List.set_cons_succ, List.getElem?_cons_zero, List.getElem?_cons_succ, List.length_cons, List.length_nil, u_lc, u_for, u_r1, u_r2, u_r3, u_num, u_notV, u_yes, u_w0, u_w1, u_dput, u_get2, u_dget, u_prop, u_fld, u_setF, u_make, u_makeS, u_met, u_calO, u_orT, u_tupIt, u_dc, u_maxDd, u_dnew, u_tupi, ix_p0, ix_p1, wSl, woNone, woSome]
          refine ⟨trivial, draw_st S0 gp k0.2 (by omega) (div_ok (by decide) (by decide)) fun v h4 v0 v1 S1 => ?_⟩
          try simp only [u_asg, u_gN, u_ret, u_retN, u_skip, u_expr, u_ifs, u_c, u_op, u_neg, u_test, u_and, u_or, u_not, u_if, u_nil, u_cons, u_tup, u_lst, u_callP, u_call, u_b, u_chain, u_andV, u_addI, u_subI, u_mulI, u_divI, u_modI, u_powI, u_cmpI, u_eqI, u_eqS, u_eqB, u_abs, u_intI, u_intB, u_newT, u_newF, u_isN, u_notN, wVar, List.set_cons_zero, List.set_cons_succ, List.getElem?_cons_zero, List.getElem?_cons_succ, List.length_cons, List.length_nil, u_lc, u_for, u_r1, u_r2, u_r3, u_num, u_notV, u_yes, u_w0, u_w1, u_dput, u_get2, u_dget, u_prop, u_fld, u_setF, u_make, u_makeS, u_met, u_calO, u_orT, u_tupIt, u_dc, u_maxDd, u_dnew, u_tupi, ix_p0, ix_p1, wSl, woNone, woSome]
          by_cases c : v = 0
          · rw [if_pos (decide_eq_true c)]
            refine ⟨trivial, _, p, rfl, S1.iv.pen, by omega, fun x o vx po => ?_⟩
            have S2 := S1.draw gp k0.2 po
            generalize up h4 p o = h4 at S2 ⊢
            dsimp only
            refine ⟨⟨by decide, by decide, by decide⟩, ⟨by decide, by decide, by decide⟩, by decide, trivial, draw_st S2 gp k0.2 (by omega) (div_ok (by decide) (by decide)) fun v h5 v0 v1 S3 => ?_⟩
            obtain ⟨y, hy, ey⟩ := at_memq (xs := [x, .int (10 ^ Int.toNat 30 + 1), .int (10 ^ Int.toNat 30), .int 0]) v0 v1
            rw [u_ixLd ey]
            refine k4 _ _ ⟨y, ?_, rfl, S3.mono (by omega)⟩
            have : y = x ∨ y = .int (10 ^ Int.toNat 30 + 1) ∨ y = .int (10 ^ Int.toNat 30) ∨ y = .int 0 := by simpa using hy
            rcases this with rfl | rfl | rfl | rfl
            · exact vx
            · exact vl_int (by decide +kernel)
            · exact vl_int (by decide +kernel)
            · exact vl_int (by decide)
          · rw [if_neg (by rw [decide_eq_false c]; decide)]
            exact k4 _ _ ⟨_, vy0, rfl, S1.mono (by omega)⟩
        rintro _ h4 ⟨y, vy, rfl, S0⟩
        clear vy0
        ((try dsimp only); rw [u_seq]; (try simp only [u_asg, u_gN, u_ret, u_retN, u_skip, u_expr, u_ifs, u_c, u_op, u_neg, u_test, u_and, u_or, u_not, u_if, u_nil, u_cons, u_tup, u_lst, u_callP, u_call, u_b, u_chain, u_andV, u_addI, u_subI, u_mulI, u_divI, u_modI, u_powI, u_cmpI, u_eqI, u_eqS, u_eqB, u_abs, u_intI, u_intB, u_newT, u_newF, u_isN, u_notN, wVar, List.set_cons_zero, List.set_cons_succ, List.getElem?_cons_zero, List.getElem?_cons_succ, List.length_cons, List.length_nil, u_lc, u_for, u_r1, u_r2, u_r3, u_num, u_notV, u_yes, u_w0, u_w1, u_dput, u_get2, u_dget, u_prop, u_fld, u_setF, u_make, u_makeS, u_met, u_calO, u_orT, u_tupIt, u_dc, u_maxDd, u_dnew, u_tupi, ix_p0, ix_p1, wSl, woNone, woSome]))
        refine ⟨trivial, k, m.noted, e, x, y, rfl, vx, vy, S0.kk, kp, ?_⟩
        have mo : MOk m := ⟨by omega, by omega, fun r hr => by have := kp.c1 r hr; omega⟩
        generalize hd : (dueA m.noted e x y).1 = d
        generalize hr : (dueA m.noted e x y).2 = rs
        have H5 : MtAt z m (up h4 k (.lst (rs.map pairD))) g := by unfold MtAt; rw [up_ne gk]; exact S0.mt
        have k5 : (up h4 k (.lst (rs.map pairD))) k = some (.lst (rs.map pairD)) := up_same
        have I5 := S0.iv.put (o := .lst (rs.map pairD)) k0.1
        generalize up h4 k (.lst (rs.map pairD)) = h5 at H5 k5 I5
        have nxt : ∀ (m2 : Mt) (h6 : AH) (cn : D), cn = .int (m2.ear.length : Nat) → Stt z h p g k m2 (3000 * t + 100 + 60 * i + 26) h6 → m2.edge = e → Kp m2.noted → m2.noted.length ≤ i + 1 → m2.ear.length ≤ i + 1 → Rq d 3 1000 →
            wIfS (wOr (wTest (wOp (dEq fun b => !b) (wB dReprQ (wCons (wVar 12) wNil)) (wB dReprQ (wCons (wVar 11) wNil)))) (DL.wNot (wTest (wCallP (S__law_stands z) 5 (fun ds _ => ds) (wCons (wVar 1) (wCons (wVar 4) (wCons (wVar 5) (wCons (wVar 6) (wCons (wVar 3) wNil))))))))) (wRet (wC (.bl false))) wSkip
            { nx := K3, rt := (endsD Q X).rt, bk := K9, ct := K3, ex := (endsD Q X).ex }
            [some (.lk (js.map D.int)), some (.ref p), some (.int (0 + (t : Nat))), some (bnD e), some (.ref g), some (.ref k), some cn, some (srcD G zs), some (.int (0 + (i : Nat))), some x, some y, some d, some d] h6 := fun m2 h6 cn ecn S6 em2 kp2 ln2 le2 rd => by
          subst ecn
          simp only [u_asg, u_gN, u_ret, u_retN, u_skip, u_expr, u_ifs, u_c, u_op, u_neg, u_test, u_and, u_or, u_not, u_if, u_nil, u_cons, u_tup, u_lst, u_callP, u_call, u_b, u_chain, u_andV, u_addI, u_subI, u_mulI, u_divI, u_modI, u_powI, u_cmpI, u_eqI, u_eqS, u_eqB, u_abs, u_intI, u_intB, u_newT, u_newF, u_isN, u_notN, wVar, List.set_cons_zero, List.set_cons_succ, List.getElem?_cons_zero, List.getElem?_cons_succ, List.length_cons, List.length_nil, u_lc, u_for, u_r1, u_r2, u_r3, u_num, u_notV, u_yes, u_w0, u_w1, u_dput, u_get2, u_dget, u_prop, u_fld, u_setF, u_make, u_makeS, u_met, u_calO, u_orT, u_tupIt, u_dc, u_maxDd, u_dnew, u_tupi, ix_p0, ix_p1, wSl, woNone, woSome]
          refine go_rq rd (by decide) (by decide) (go_rq rd (by decide) (by decide) (text_same ?_))
          dsimp only
          rw [if_neg (by decide)]
          refine ⟨trivial, _, p, g, k, m2, by rw [em2], ⟨S6.iv.old _ _ tb.1 tp.1, S6.iv.old _ _ tb.2 tp.2⟩, S6.iv.pen, by omega, S6.mt, ⟨by omega, by omega, fun r hr => by have := kp2.c1 r hr; omega⟩, S6.kk, kp2, by rw [em2]; exact he, fun o h7 po s7 => ?_⟩
          simp only [Bool.not_true, Bool.false_eq_true, if_false]
          have S7 := S6.draw gp k0.2 po
          exact k3 _ _ ⟨m2, _, _, _, _, _, rfl, (Inv0.mono ⟨let ⟨o, e, r⟩ := S7.iv.pen; ⟨o, s7 _ _ e, r⟩, fun b o e c => s7 _ _ (S7.iv.old b o e c), S7.iv.isp⟩ (by omega)), s7 _ _ S7.mt, s7 _ _ S7.kk, em2, kp2, ln2, le2⟩
        dsimp only
        rw [u_seq, u_asg]
        refine ⟨I5.old _ _ tb.1 tp.1, ?_⟩
        unfold FM.S__law_heard
        simp only [u_asg, u_gN, u_ret, u_retN, u_skip, u_expr, u_ifs, u_c, u_op, u_neg, u_test, u_and, u_or, u_not, u_if, u_nil, u_cons, u_tup, u_lst, u_callP, u_call, u_b, u_chain, u_andV, u_addI, u_subI, u_mulI, u_divI, u_modI, u_powI, u_cmpI, u_eqI, u_eqS, u_eqB, u_abs, u_intI, u_intB, u_newT, u_newF, u_isN, u_notN, wVar, List.set_cons_zero, List.set_cons_succ, List.getElem?_cons_zero, List.getElem?_cons_succ, List.length_cons, List.length_nil, u_lc, u_for, u_r1, u_r2, u_r3, u_num, u_notV, u_yes, u_w0, u_w1, u_dput, u_get2, u_dget, u_prop, u_fld, u_setF, u_make, u_makeS, u_met, u_calO, u_orT, u_tupIt, u_dc, u_maxDd, u_dnew, u_tupi, ix_p0, ix_p1, wSl, woNone, woSome]
        refine ⟨_, H5.ins, rfl, add_go vx vy H5 mo kp (fun C fs n us hx due rq h6 s6 => ?_) (fun c l e1 e2 i1 i2 i3 i4 hn due due2 => ?_)⟩
        · rw [em] at due
          rw [due] at hd hr
          have hd : D.tup us = d := hd
          have hr : m.noted = rs := hr
          subst hd hr
          refine ⟨C, fs, n, _, rfl, hx, ?_⟩
          ((try dsimp only); rw [u_seq]; (try simp only [u_asg, u_gN, u_ret, u_retN, u_skip, u_expr, u_ifs, u_c, u_op, u_neg, u_test, u_and, u_or, u_not, u_if, u_nil, u_cons, u_tup, u_lst, u_callP, u_call, u_b, u_chain, u_andV, u_addI, u_subI, u_mulI, u_divI, u_modI, u_powI, u_cmpI, u_eqI, u_eqS, u_eqB, u_abs, u_intI, u_intB, u_newT, u_newF, u_isN, u_notN, wVar, List.set_cons_zero, List.set_cons_succ, List.getElem?_cons_zero, List.getElem?_cons_succ, List.length_cons, List.length_nil, u_lc, u_for, u_r1, u_r2, u_r3, u_num, u_notV, u_yes, u_w0, u_w1, u_dput, u_get2, u_dget, u_prop, u_fld, u_setF, u_make, u_makeS, u_met, u_calO, u_orT, u_tupIt, u_dc, u_maxDd, u_dnew, u_tupi, ix_p0, ix_p1, wSl, woNone, woSome]))
          refine ⟨by decide, .inr (.inl ⟨us, [.non], rfl, rfl, ?_⟩)⟩
          dsimp only
          simp only [u_asg, u_gN, u_ret, u_retN, u_skip, u_expr, u_ifs, u_c, u_op, u_neg, u_test, u_and, u_or, u_not, u_if, u_nil, u_cons, u_tup, u_lst, u_callP, u_call, u_b, u_chain, u_andV, u_addI, u_subI, u_mulI, u_divI, u_modI, u_powI, u_cmpI, u_eqI, u_eqS, u_eqB, u_abs, u_intI, u_intB, u_newT, u_newF, u_isN, u_notN, wVar, List.set_cons_zero, List.set_cons_succ, List.getElem?_cons_zero, List.getElem?_cons_succ, List.length_cons, List.length_nil, u_lc, u_for, u_r1, u_r2, u_r3, u_num, u_notV, u_yes, u_w0, u_w1, u_dput, u_get2, u_dget, u_prop, u_fld, u_setF, u_make, u_makeS, u_met, u_calO, u_orT, u_tupIt, u_dc, u_maxDd, u_dnew, u_tupi, ix_p0, ix_p1, wSl, woNone, woSome]
          have W := nxt m h6 (.int ((m.ear.length : Nat) + if false = true then 1 else 0)) (by simp) ⟨⟨let ⟨o, e, r⟩ := I5.pen; ⟨o, s6 _ _ e, r⟩, fun b o e c => s6 _ _ (I5.old b o e c), I5.isp⟩, s6 _ _ H5, s6 _ _ k5⟩ em kp (by omega) (by omega) rq
          simp only [u_asg, u_gN, u_ret, u_retN, u_skip, u_expr, u_ifs, u_c, u_op, u_neg, u_test, u_and, u_or, u_not, u_if, u_nil, u_cons, u_tup, u_lst, u_callP, u_call, u_b, u_chain, u_andV, u_addI, u_subI, u_mulI, u_divI, u_modI, u_powI, u_cmpI, u_eqI, u_eqS, u_eqB, u_abs, u_intI, u_intB, u_newT, u_newF, u_isN, u_notN, wVar, List.set_cons_zero, List.set_cons_succ, List.getElem?_cons_zero, List.getElem?_cons_succ, List.length_cons, List.length_nil, u_lc, u_for, u_r1, u_r2, u_r3, u_num, u_notV, u_yes, u_w0, u_w1, u_dput, u_get2, u_dget, u_prop, u_fld, u_setF, u_make, u_makeS, u_met, u_calO, u_orT, u_tupIt, u_dc, u_maxDd, u_dnew, u_tupi, ix_p0, ix_p1, wSl, woNone, woSome] at W
          exact W
        · rw [em] at due due2 hn
          rw [due] at hd
          rw [due2] at hr
          obtain ⟨kp2, ek, ek2⟩ := kp_tk (m := m) (c := c) (l := l) kp (by rw [em]; exact hn) i1 i2 i3 i4 (by omega)
          rw [← ek] at hr
          subst hd hr
          ((try dsimp only); rw [u_seq]; (try simp only [u_asg, u_gN, u_ret, u_retN, u_skip, u_expr, u_ifs, u_c, u_op, u_neg, u_test, u_and, u_or, u_not, u_if, u_nil, u_cons, u_tup, u_lst, u_callP, u_call, u_b, u_chain, u_andV, u_addI, u_subI, u_mulI, u_divI, u_modI, u_powI, u_cmpI, u_eqI, u_eqS, u_eqB, u_abs, u_intI, u_intB, u_newT, u_newF, u_isN, u_notN, wVar, List.set_cons_zero, List.set_cons_succ, List.getElem?_cons_zero, List.getElem?_cons_succ, List.length_cons, List.length_nil, u_lc, u_for, u_r1, u_r2, u_r3, u_num, u_notV, u_yes, u_w0, u_w1, u_dput, u_get2, u_dget, u_prop, u_fld, u_setF, u_make, u_makeS, u_met, u_calO, u_orT, u_tupIt, u_dc, u_maxDd, u_dnew, u_tupi, ix_p0, ix_p1, wSl, woNone, woSome]))
          refine ⟨by decide, .inr (.inr (same_lst (k := 2) (fl_lst (k := 1) fun x hx => by obtain rfl : x = .non := (by simpa using hx); exact ⟨rfl, by rw [pd, PyData.canLay0], by rw [pd, PyData.depth]; exact Nat.zero_le _⟩) (by decide) ?_))⟩
          simp only [u_asg, u_gN, u_ret, u_retN, u_skip, u_expr, u_ifs, u_c, u_op, u_neg, u_test, u_and, u_or, u_not, u_if, u_nil, u_cons, u_tup, u_lst, u_callP, u_call, u_b, u_chain, u_andV, u_addI, u_subI, u_mulI, u_divI, u_modI, u_powI, u_cmpI, u_eqI, u_eqS, u_eqB, u_abs, u_intI, u_intB, u_newT, u_newF, u_isN, u_notN, wVar, List.set_cons_zero, List.set_cons_succ, List.getElem?_cons_zero, List.getElem?_cons_succ, List.length_cons, List.length_nil, u_lc, u_for, u_r1, u_r2, u_r3, u_num, u_notV, u_yes, u_w0, u_w1, u_dput, u_get2, u_dget, u_prop, u_fld, u_setF, u_make, u_makeS, u_met, u_calO, u_orT, u_tupIt, u_dc, u_maxDd, u_dnew, u_tupi, ix_p0, ix_p1, wSl, woNone, woSome]
          have W := nxt (tk m (c, l)) (putM z h5 g (tk m (c, l))) (.int ((m.ear.length : Nat) + if true = true then 1 else 0)) (by show D.int ((m.ear.length : Nat) + 1) = .int ((m.ear ++ [(m.noted, m.edge)]).length : Nat); rw [List.length_append]; rfl) ⟨I5.put (o := .ins z.Meter (mtF (tk m (c, l)))) g0, up_same, (up_ne (Ne.symm gk)).trans k5⟩ em kp2 (by omega) (by show (m.ear ++ [(m.noted, m.edge)]).length ≤ _; rw [List.length_append]; exact Nat.succ_le_succ le) (rq_wk (rq_lst (k := 1) (n := 10) fun a ha => by obtain rfl : a = .non := (by simpa using ha); exact ⟨rfl, by rw [pq, PyData.showable], by rw [pq, PyData.depth]; exact Nat.zero_le _, by rw [pq, PyData.shown]; decide +kernel⟩) (by decide) (by decide))
          simp only [u_asg, u_gN, u_ret, u_retN, u_skip, u_expr, u_ifs, u_c, u_op, u_neg, u_test, u_and, u_or, u_not, u_if, u_nil, u_cons, u_tup, u_lst, u_callP, u_call, u_b, u_chain, u_andV, u_addI, u_subI, u_mulI, u_divI, u_modI, u_powI, u_cmpI, u_eqI, u_eqS, u_eqB, u_abs, u_intI, u_intB, u_newT, u_newF, u_isN, u_notN, wVar, List.set_cons_zero, List.set_cons_succ, List.getElem?_cons_zero, List.getElem?_cons_succ, List.length_cons, List.length_nil, u_lc, u_for, u_r1, u_r2, u_r3, u_num, u_notV, u_yes, u_w0, u_w1, u_dput, u_get2, u_dget, u_prop, u_fld, u_setF, u_make, u_makeS, u_met, u_calO, u_orT, u_tupIt, u_dc, u_maxDd, u_dnew, u_tupi, ix_p0, ix_p1, wSl, woNone, woSome] at W
          exact W
      · rintro _ g3 ⟨m, a8, a9, a10, a11, a12, rfl, I, _⟩
        exact k9 _ _ ⟨_, _, _, _, _, _, _, _, _, _, _, rfl, I.mono (by rw [intsD_len]; omega)⟩
    · rintro _ g ⟨a2, a3, a4, a5, a6, a7, a8, a9, a10, a11, a12, rfl, I⟩
      exact k _ _ ⟨_, _, _, _, _, _, _, _, _, _, _, rfl, I.mono (by show (3000 : Int) * (3 : Nat) ≤ 9000; decide)⟩
  rintro _ g ⟨a2, a3, a4, a5, a6, a7, a8, a9, a10, a11, a12, rfl, I⟩
  rw [u_seq, u_asg, u_makeM]
  simp only [u_asg, u_gN, u_ret, u_retN, u_skip, u_expr, u_ifs, u_c, u_op, u_neg, u_test, u_and, u_or, u_not, u_if, u_nil, u_cons, u_tup, u_lst, u_callP, u_call, u_b, u_chain, u_andV, u_addI, u_subI, u_mulI, u_divI, u_modI, u_powI, u_cmpI, u_eqI, u_eqS, u_eqB, u_abs, u_intI, u_intB, u_newT, u_newF, u_isN, u_notN, wVar, List.set_cons_zero, List.set_cons_succ, List.getElem?_cons_zero, List.getElem?_cons_succ, List.length_cons, List.length_nil, u_lc, u_for, u_r1, u_r2, u_r3, u_num, u_notV, u_yes, u_w0, u_w1, u_dput, u_get2, u_dget, u_prop, u_fld, u_setF, u_make, u_makeS, u_met, u_calO, u_orT, u_tupIt, u_dc, u_maxDd, u_dnew, u_tupi, ix_p0, ix_p1, wSl, woNone, woSome]
  refine ⟨trivial, trivial, fun G hG => mk_go (e := none) rfl ?_⟩
  have G0 := I.fresh hG
  replace I : Inv0 h p _ (putM z g G ⟨[], none, []⟩) := (I.new (o := .ins z.Meter (mtF ⟨[], none, []⟩)) hG)
  have HG : MtAt z ⟨[], none, []⟩ (putM z g G ⟨[], none, []⟩) G := up_same
  generalize hg1 : putM z g G ⟨[], none, []⟩ = g1 at HG I
  clear hg1
  rw [u_seq, u_asg, u_lst]
  simp only [u_cons]
  have e30 : (10 : Int) ^ 30 = 1000000000000000000000000000000 := by decide
  refine ⟨_, HG.ins, rfl, ?_⟩
  simp only [u_asg, u_gN, u_ret, u_retN, u_skip, u_expr, u_ifs, u_c, u_op, u_neg, u_test, u_and, u_or, u_not, u_if, u_nil, u_cons, u_tup, u_lst, u_callP, u_call, u_b, u_chain, u_andV, u_addI, u_subI, u_mulI, u_divI, u_modI, u_powI, u_cmpI, u_eqI, u_eqS, u_eqB, u_abs, u_intI, u_intB, u_newT, u_newF, u_isN, u_notN, wVar, List.set_cons_zero, List.set_cons_succ, List.getElem?_cons_zero, List.getElem?_cons_succ, List.length_cons, List.length_nil, u_lc, u_for, u_r1, u_r2, u_r3, u_num, u_notV, u_yes, u_w0, u_w1, u_dput, u_get2, u_dget, u_prop, u_fld, u_setF, u_make, u_makeS, u_met, u_calO, u_orT, u_tupIt, u_dc, u_maxDd, u_dnew, u_tupi, ix_p0, ix_p1, wSl, woNone, woSome]
  refine add_one HG ⟨by decide, by decide, by decide⟩ (by decide) (by decide) (by decide) (by omega) (by decide) ?_
  have H2 : MtAt z (tk ⟨[], none, []⟩ (2, 7)) (putM z g1 G (tk ⟨[], none, []⟩ (2, 7))) G := up_same
  replace I : Inv0 h p _ (putM z g1 G (tk ⟨[], none, []⟩ (2, 7))) := I.put (o := .ins z.Meter (mtF (tk ⟨[], none, []⟩ (2, 7)))) G0.1
  generalize hg2 : putM z g1 G (tk ⟨[], none, []⟩ (2, 7)) = g2 at H2 I
  clear hg2
  generalize hm2 : tk ⟨[], none, []⟩ (2, 7) = m2 at H2 I
  have n2 : m2.noted = [(2, 7)] := by rw [← hm2]; rfl
  have e2 : m2.edge = none := by rw [← hm2]; rfl
  have l2 : m2.ear.length = 1 := by rw [← hm2]; rfl
  have ok2 : MOk m2 := ⟨by rw [n2]; decide, by rw [l2]; decide, by rw [n2]; decide⟩
  clear hm2
  rw [u_metK]
  simp only [u_asg, u_gN, u_ret, u_retN, u_skip, u_expr, u_ifs, u_c, u_op, u_neg, u_test, u_and, u_or, u_not, u_if, u_nil, u_cons, u_tup, u_lst, u_callP, u_call, u_b, u_chain, u_andV, u_addI, u_subI, u_mulI, u_divI, u_modI, u_powI, u_cmpI, u_eqI, u_eqS, u_eqB, u_abs, u_intI, u_intB, u_newT, u_newF, u_isN, u_notN, wVar, List.set_cons_zero, List.set_cons_succ, List.getElem?_cons_zero, List.getElem?_cons_succ, List.length_cons, List.length_nil, u_lc, u_for, u_r1, u_r2, u_r3, u_num, u_notV, u_yes, u_w0, u_w1, u_dput, u_get2, u_dget, u_prop, u_fld, u_setF, u_make, u_makeS, u_met, u_calO, u_orT, u_tupIt, u_dc, u_maxDd, u_dnew, u_tupi, ix_p0, ix_p1, wSl, woNone, woSome]
  refine ⟨_, H2.ins, rfl, trivial, ?_⟩
  show S_Meter_add z [.ref G, .int 4, .int 9] g2 _ _
  refine add_one H2 ok2 (by decide) (by decide) (by decide) (by omega) (by rw [n2, e2]; decide) ?_
  have H3 : MtAt z (tk m2 (4, 9)) (putM z g2 G (tk m2 (4, 9))) G := up_same
  replace I : Inv0 h p _ (putM z g2 G (tk m2 (4, 9))) := I.put (o := .ins z.Meter (mtF (tk m2 (4, 9)))) G0.1
  generalize hg2 : putM z g2 G (tk m2 (4, 9)) = g3 at H3 I
  clear hg2
  generalize hm3 : tk m2 (4, 9) = m3 at H3 I
  have n3 : m3.noted = [(2, 7), (4, 9)] := by
    rw [← hm3]
    show (if hasC m2.noted (.int 4) = true then m2.noted else m2.noted ++ [(4, 9)]) = _
    rw [n2]; decide
  have e3 : m3.edge = none := by rw [← hm3]; exact e2
  have l3 : m3.ear.length = 2 := by rw [← hm3]; show (m2.ear ++ [_]).length = 2; rw [List.length_append, l2]; rfl
  have ok3 : MOk m3 := ⟨by rw [n3]; decide, by rw [l3]; decide, by rw [n3]; decide⟩
  clear hm3
  refine ⟨I.old _ _ tb.1 tp.1, ?_⟩
  unfold FM.S__law_heard
  simp only [u_asg, u_gN, u_ret, u_retN, u_skip, u_expr, u_ifs, u_c, u_op, u_neg, u_test, u_and, u_or, u_not, u_if, u_nil, u_cons, u_tup, u_lst, u_callP, u_call, u_b, u_chain, u_andV, u_addI, u_subI, u_mulI, u_divI, u_modI, u_powI, u_cmpI, u_eqI, u_eqS, u_eqB, u_abs, u_intI, u_intB, u_newT, u_newF, u_isN, u_notN, wVar, List.set_cons_zero, List.set_cons_succ, List.getElem?_cons_zero, List.getElem?_cons_succ, List.length_cons, List.length_nil, u_lc, u_for, u_r1, u_r2, u_r3, u_num, u_notV, u_yes, u_w0, u_w1, u_dput, u_get2, u_dget, u_prop, u_fld, u_setF, u_make, u_makeS, u_met, u_calO, u_orT, u_tupIt, u_dc, u_maxDd, u_dnew, u_tupi, ix_p0, ix_p1, wSl, woNone, woSome]
  refine ⟨_, H3.ins, rfl, add_bad (r := (2, 7)) H3 ok3 (by decide) (by decide) (by decide) (by omega) (by rw [n3, e3]; decide) fun g4 s4 => ?_⟩
  refine ⟨_, _, _, _, rfl, .con (.int 2) (.int 4), ?_⟩
  have H4 : MtAt z m3 g4 G := s4 _ _ H3
  refine ⟨_, H4.ins, rfl, ?_⟩
  refine add_one H4 ok3 (by decide) (by decide) (by decide) (by omega) (by rw [n3, e3]; decide) ?_
  have H5 : MtAt z (tk m3 (4, 9)) (putM z g4 G (tk m3 (4, 9))) G := up_same
  generalize hg2 : putM z g4 G (tk m3 (4, 9)) = g5 at H5
  clear hg2
  generalize hm4 : tk m3 (4, 9) = m4 at H5
  have n4 : m4.noted = [(2, 7), (4, 9)] := by
    rw [← hm4]
    show (if hasC m3.noted (.int 4) = true then m3.noted else m3.noted ++ [(4, 9)]) = _
    rw [n3]; decide
  have l4 : m4.ear.length = 3 := by rw [← hm4]; show (m3.ear ++ [_]).length = 3; rw [List.length_append, l3]; rfl
  clear hm4
  refine ⟨by decide, by decide, by decide, ?_⟩
  have fs : ∀ x : D, x ∈ [D.non, .non, .tup [.str (Str.ofString "against"), .int 2, .int 4], .non] → Fl x 3 := fun x hx => by
    have hx : x = .non ∨ x = .tup [.str (Str.ofString "against"), .int 2, .int 4] := by
      have : x = .non ∨ x = .tup [.str (Str.ofString "against"), .int 2, .int 4] ∨ x = .non := by simpa using hx
      rcases this with h | h | h
      · exact .inl h
      · exact .inr h
      · exact .inl h
    have fl : ∀ {d : D}, dat d = true → PyData.canLay0 (pd d) = true → PyData.depth (pd d) ≤ 3 → Fl d 3 := fun a b c => ⟨a, b, c⟩
    rcases hx with rfl | rfl
    · exact fl rfl (by decide +kernel) (by decide +kernel)
    · exact fl rfl (by decide +kernel) (by decide +kernel)
  refine same_lst (k := 4) (fl_lst (k := 3) fs) (by decide) ?_
  dsimp only
  rw [if_pos rfl]
  refine ⟨⟨_, H5.ins⟩, G, m4, rfl, H5, by decide, by decide, by decide, ?_⟩
  rw [n4]
  have fp : ∀ x : D, x ∈ [D.tup [.int 2, .int 7], .tup [.int 4, .int 9]] → Fl x 1 := fun x hx => fl_pairs [((2 : Int), (7 : Int)), (4, 9)] x hx
  have ft : Fl (.tup [D.tup [.int 2, .int 7], .tup [.int 4, .int 9]]) 2 := fl_tup fp
  refine same_tup ft (by decide) ?_
  dsimp only
  rw [if_pos rfl]
  refine ⟨⟨_, H5.ins⟩, G, m4, rfl, H5, ?_⟩
  rw [l4]
  show (endsD Q X).rt (.bl true) g5
  exact fin_of (q _)
end K71
namespace K71
open PySem PySem.Spec L2 C8 DL PK FM PK PyProof.Rows
theorem sc_Contradiction___init__ : FnScope ["self", "first", "second"] ["self", "first", "second"] (defScope s_Contradiction___init__) := ⟨rfl, rfl, rfl, by decide +kernel, rfl, by decide +kernel, by decide +kernel⟩
theorem sc_InvalidBound___init__ : FnScope ["self", "value"] ["self", "value"] (defScope s_InvalidBound___init__) := ⟨rfl, rfl, rfl, by decide +kernel, rfl, by decide +kernel, by decide +kernel⟩
theorem sc_InvalidCapacity___init__ : FnScope ["self", "value"] ["self", "value"] (defScope s_InvalidCapacity___init__) := ⟨rfl, rfl, rfl, by decide +kernel, rfl, by decide +kernel, by decide +kernel⟩
theorem sc_InvalidReading___init__ : FnScope ["self", "value"] ["self", "value"] (defScope s_InvalidReading___init__) := ⟨rfl, rfl, rfl, by decide +kernel, rfl, by decide +kernel, by decide +kernel⟩
theorem sc_NoReading___init__ : FnScope ["self", "asked"] ["self", "asked"] (defScope s_NoReading___init__) := ⟨rfl, rfl, rfl, by decide +kernel, rfl, by decide +kernel, by decide +kernel⟩
theorem sc_is_integer : FnScope N_is_integer ["value"] (defScope s_is_integer) := ⟨rfl, rfl, rfl, by decide +kernel, rfl, by decide +kernel, by decide +kernel⟩
theorem sc_is_between : FnScope N_is_between ["value", "least", "most"] (defScope s_is_between) := ⟨rfl, rfl, rfl, by decide +kernel, rfl, by decide +kernel, by decide +kernel⟩
theorem sc_common_divisor : FnScope N_common_divisor ["one", "other"] (defScope s_common_divisor) := ⟨rfl, rfl, rfl, by decide +kernel, rfl, by decide +kernel, by decide +kernel⟩
theorem sc_modulus_of : FnScope N_modulus_of ["capacity", "most"] (defScope s_modulus_of) := ⟨rfl, rfl, rfl, by decide +kernel, rfl, by decide +kernel, by decide +kernel⟩
theorem sc_shared : FnScope N_shared ["capacity", "other", "most"] (defScope s_shared) := ⟨rfl, rfl, rfl, by decide +kernel, rfl, by decide +kernel, by decide +kernel⟩
theorem sc_do_agree : FnScope N_do_agree ["one", "other", "most"] (defScope s_do_agree) := ⟨rfl, rfl, rfl, by decide +kernel, rfl, by decide +kernel, by decide +kernel⟩
theorem sc_need_capacity_meters : FnScope N_need_capacity_meters ["value"] (defScope s_need_capacity_meters) := ⟨rfl, rfl, rfl, by decide +kernel, rfl, by decide +kernel, by decide +kernel⟩
theorem sc_need_bound : FnScope N_need_bound ["value"] (defScope s_need_bound) := ⟨rfl, rfl, rfl, by decide +kernel, rfl, by decide +kernel, by decide +kernel⟩
theorem sc_Meter___init__ : FnScope N_Meter___init__ ["self", "most"] (defScope s_Meter___init__) := ⟨rfl, rfl, rfl, by decide +kernel, rfl, by decide +kernel, by decide +kernel⟩
theorem sc_Meter_readings : FnScope N_Meter_readings ["self"] (defScope s_Meter_readings) := ⟨rfl, rfl, rfl, by decide +kernel, rfl, by decide +kernel, by decide +kernel⟩
theorem sc_Meter_most : FnScope N_Meter_most ["self"] (defScope s_Meter_most) := ⟨rfl, rfl, rfl, by decide +kernel, rfl, by decide +kernel, by decide +kernel⟩
theorem sc_Meter_steps : FnScope N_Meter_steps ["self"] (defScope s_Meter_steps) := ⟨rfl, rfl, rfl, by decide +kernel, rfl, by decide +kernel, by decide +kernel⟩
theorem sc_Meter_settle : FnScope N_Meter_settle ["self", "readings", "most"] (defScope s_Meter_settle) := ⟨rfl, rfl, rfl, by decide +kernel, rfl, by decide +kernel, by decide +kernel⟩
theorem sc_Meter_take : FnScope N_Meter_take ["self", "capacity", "length"] (defScope s_Meter_take) := ⟨rfl, rfl, rfl, by decide +kernel, rfl, by decide +kernel, by decide +kernel⟩
theorem sc_Meter_add : FnScope N_Meter_add ["self", "capacity", "length"] (defScope s_Meter_add) := ⟨rfl, rfl, rfl, by decide +kernel, rfl, by decide +kernel, by decide +kernel⟩
theorem sc_Meter___len__ : FnScope N_Meter___len__ ["self"] (defScope s_Meter___len__) := ⟨rfl, rfl, rfl, by decide +kernel, rfl, by decide +kernel, by decide +kernel⟩
theorem sc_Meter___contains__ : FnScope N_Meter___contains__ ["self", "x"] (defScope s_Meter___contains__) := ⟨rfl, rfl, rfl, by decide +kernel, rfl, by decide +kernel, by decide +kernel⟩
theorem sc_Meter___getitem__ : FnScope N_Meter___getitem__ ["self", "at"] (defScope s_Meter___getitem__) := ⟨rfl, rfl, rfl, by decide +kernel, rfl, by decide +kernel, by decide +kernel⟩
theorem sc__law_pen : FnScope N__law_pen ["_law_script"] (defScope s__law_pen) := ⟨rfl, rfl, rfl, by decide +kernel, rfl, by decide +kernel, by decide +kernel⟩
theorem sc__law_draw : FnScope N__law_draw ["_law_pen_here", "_law_many"] (defScope s__law_draw) := ⟨rfl, rfl, rfl, by decide +kernel, rfl, by decide +kernel, by decide +kernel⟩
theorem sc__law_divisor : FnScope N__law_divisor ["_law_one", "_law_other"] (defScope s__law_divisor) := ⟨rfl, rfl, rfl, by decide +kernel, rfl, by decide +kernel, by decide +kernel⟩
theorem sc__law_agree : FnScope N__law_agree ["_law_first", "_law_second", "_law_bound"] (defScope s__law_agree) := ⟨rfl, rfl, rfl, by decide +kernel, rfl, by decide +kernel, by decide +kernel⟩
theorem sc__law_size : FnScope N__law_size ["_law_pen_here"] (defScope s__law_size) := ⟨rfl, rfl, rfl, by decide +kernel, rfl, by decide +kernel, by decide +kernel⟩
theorem sc__law_source : FnScope N__law_source ["_law_pen_here"] (defScope s__law_source) := ⟨rfl, rfl, rfl, by decide +kernel, rfl, by decide +kernel, by decide +kernel⟩
theorem sc__law_length : FnScope N__law_length ["_law_source_here", "_law_size_here"] (defScope s__law_length) := ⟨rfl, rfl, rfl, by decide +kernel, rfl, by decide +kernel, by decide +kernel⟩
theorem sc__law_reading : FnScope N__law_reading ["_law_pen_here", "_law_source_here"] (defScope s__law_reading) := ⟨rfl, rfl, rfl, by decide +kernel, rfl, by decide +kernel, by decide +kernel⟩
theorem sc__law_fields : FnScope N__law_fields ["_law_caught", "_law_at"] (defScope s__law_fields) := ⟨rfl, rfl, rfl, by decide +kernel, rfl, by decide +kernel, by decide +kernel⟩
theorem sc__law_heard : FnScope N__law_heard ["_law_ask"] (defScope s__law_heard) := ⟨rfl, rfl, rfl, by decide +kernel, rfl, by decide +kernel, by decide +kernel⟩
theorem sc__law_odd : FnScope N__law_odd ["_law_pen_here"] (defScope s__law_odd) := ⟨rfl, rfl, rfl, by decide +kernel, rfl, by decide +kernel, by decide +kernel⟩
theorem sc__law_added : FnScope N__law_added ["_law_kept", "_law_bound", "_law_size_here", "_law_worth"] (defScope s__law_added) := ⟨rfl, rfl, rfl, by decide +kernel, rfl, by decide +kernel, by decide +kernel⟩
theorem sc__law_stands : FnScope N__law_stands ["_law_pen_here", "_law_gauge", "_law_kept", "_law_many", "_law_bound"] (defScope s__law_stands) := ⟨rfl, rfl, rfl, by decide +kernel, rfl, by decide +kernel, by decide +kernel⟩
theorem sc_law : FnScope N_law ["_law_script"] (defScope s_law) := ⟨rfl, rfl, rfl, by decide +kernel, rfl, by decide +kernel, by decide +kernel⟩
/-- what the module's names hold -/
structure Txt (K : PySem.W.Frag) (mg : Str → Option Value) (z : Ad) : Prop where
  k_Meter : Cls K z.Meter
  n_Meter_earlier : NoAttr K z.Meter "earlier"
  n_Meter_edge : NoAttr K z.Meter "edge"
  n_Meter_noted : NoAttr K z.Meter "noted"
  v_Contradiction : Cst K mg "Contradiction" (.ref z.Contradiction)
  v_DifferentModes : Cst K mg "DifferentModes" (.ref z.DifferentModes)
  v_Finished : Cst K mg "Finished" (.ref z.Finished)
  v_InvalidAccount : Cst K mg "InvalidAccount" (.ref z.InvalidAccount)
  v_InvalidBound : Cst K mg "InvalidBound" (.ref z.InvalidBound)
  v_InvalidCapacity : Cst K mg "InvalidCapacity" (.ref z.InvalidCapacity)
  v_InvalidMode : Cst K mg "InvalidMode" (.ref z.InvalidMode)
  v_InvalidNumber : Cst K mg "InvalidNumber" (.ref z.InvalidNumber)
  v_InvalidProgram : Cst K mg "InvalidProgram" (.ref z.InvalidProgram)
  v_InvalidReading : Cst K mg "InvalidReading" (.ref z.InvalidReading)
  v_InvalidRow : Cst K mg "InvalidRow" (.ref z.InvalidRow)
  v_InvalidTable : Cst K mg "InvalidTable" (.ref z.InvalidTable)
  v_InvalidText : Cst K mg "InvalidText" (.ref z.InvalidText)
  v_Lossy : Cst K mg "Lossy" (.ref z.Lossy)
  v_NoName : Cst K mg "NoName" (.ref z.NoName)
  v_NoPlace : Cst K mg "NoPlace" (.ref z.NoPlace)
  v_NoPoint : Cst K mg "NoPoint" (.ref z.NoPoint)
  v_NoReading : Cst K mg "NoReading" (.ref z.NoReading)
  v_NothingToUndo : Cst K mg "NothingToUndo" (.ref z.NothingToUndo)
  v_SizeError : Cst K mg "SizeError" (.ref z.SizeError)
  v_UnknownCommand : Cst K mg "UnknownCommand" (.ref z.UnknownCommand)
  xg_EchoError : mg "EchoError" = some (.ref z.EchoError)
  xg_SizeError : mg "SizeError" = some (.ref z.SizeError)
  xg_AbsentError : mg "AbsentError" = some (.ref z.AbsentError)
  xerr : ∀ C ∈ errs z, PySem.W.exmAny K (.ref C) [.ref z.EchoError, .ref z.SizeError, .ref z.AbsentError] = some true
  xtab : XTabOk K (xtab z)
  xf_asked : ∀ C ∈ [z.NoReading], XVal K C ∧ PySem.W.findIn K (.ref C) "asked" = some none
  xf_count : ∀ C ∈ [z.NothingToUndo], XVal K C ∧ PySem.W.findIn K (.ref C) "count" = some none
  xf_first : ∀ C ∈ [z.Contradiction], XVal K C ∧ PySem.W.findIn K (.ref C) "first" = some none
  xf_second : ∀ C ∈ [z.Contradiction], XVal K C ∧ PySem.W.findIn K (.ref C) "second" = some none
  xf_value : ∀ C ∈ [z.InvalidCapacity, z.InvalidReading, z.InvalidBound], XVal K C ∧ PySem.W.findIn K (.ref C) "value" = some none
  z_LookupError : mg "LookupError" = none
  z_ValueError : mg "ValueError" = none
  z_abs : mg "abs" = none
  z_any : mg "any" = none
  z_bool : mg "bool" = none
  z_int : mg "int" = none
  z_isinstance : mg "isinstance" = none
  z_len : mg "len" = none
  z_list : mg "list" = none
  z_range : mg "range" = none
  z_repr : mg "repr" = none
  z_sorted : mg "sorted" = none
  z_sum : mg "sum" = none
  z_tuple : mg "tuple" = none
  c_MOST_LENGTH : Cst K mg "MOST_LENGTH" (.int 1000000000000000000000000000000)
  c_MOST_READ : Cst K mg "MOST_READ" (.int 10000)
/-! ### the derivations -/
section
variable {P : Program} {w : World} {K : PySem.W.Frag} {mg : Str → Option Value} {base : Heap}
theorem d_is_integer {z : Ad} (T : Txt K mg z)  {f : Addr} (cdv : Value) (A : Around) (outer : List PySem.Env) (s : Shared) (H : Hp) (E : XK) (c : Cg false (cxOf (L2.CX P w) P w K mg base N_is_integer "is_integer" (defScope s_is_integer) f cdv A outer s H E) E 0) :
    ASs (cxOf (L2.CX P w) P w K mg base N_is_integer "is_integer" (defScope s_is_integer) f cdv A outer s H E) E (defBody s_is_integer) (FM.w_is_integer z) :=
  (ass_one (as_ret (ae_and (ae_b dIsi_ok T.z_isinstance bb_isinstance (aa_cons (ae_var 0) (aa_cons (ae_ty T.z_int bb_int) aa_nil))) (ae_one (ae_not (ae_b dIsi_ok T.z_isinstance bb_isinstance (aa_cons (ae_var 0) (aa_cons (ae_ty T.z_bool bb_bool) aa_nil))))))))
theorem d_is_between {z : Ad} (T : Txt K mg z) (C_is_integer : Cal false P w K mg base "is_integer" 1 1 [] (fun ds _ => ds) (FM.S_is_integer z)) {f : Addr} (cdv : Value) (A : Around) (outer : List PySem.Env) (s : Shared) (H : Hp) (E : XK) (c : Cg false (cxOf (L2.CX P w) P w K mg base N_is_between "is_between" (defScope s_is_between) f cdv A outer s H E) E 1) :
    ASs (cxOf (L2.CX P w) P w K mg base N_is_between "is_between" (defScope s_is_between) f cdv A outer s H E) E (defBody s_is_between) (FM.w_is_between z) :=
  (ass_one (as_ret (ae_and (ae_call c C_is_integer (by decide) (by decide) (aa_cons (ae_var 0) aa_nil)) (ae_one (ae_chain2 dCmpI_ok dCmpI_ok op_le op_le (ae_var 1) (ae_var 0) (ae_var 2))))))
theorem d_common_divisor {z : Ad} (T : Txt K mg z)  {f : Addr} (cdv : Value) (A : Around) (outer : List PySem.Env) (s : Shared) (H : Hp) (E : XK) (c : Cg false (cxOf (L2.CX P w) P w K mg base N_common_divisor "common_divisor" (defScope s_common_divisor) f cdv A outer s H E) E 0) :
    ASs (cxOf (L2.CX P w) P w K mg base N_common_divisor "common_divisor" (defScope s_common_divisor) f cdv A outer s H E) E (defBody s_common_divisor) (FM.w_common_divisor z) :=
  (ass_cons (as_while c (at_gt (ae_var 1) ae_int) (ass_one (as_par 0 1 c (by decide) (aa_cons (ae_var 1) (aa_cons (ae_mod (ae_var 0) (ae_var 1)) aa_nil)))))
    (ass_one (as_ret (ae_var 0))))
theorem d_modulus_of {z : Ad} (T : Txt K mg z)  {f : Addr} (cdv : Value) (A : Around) (outer : List PySem.Env) (s : Shared) (H : Hp) (E : XK) (c : Cg false (cxOf (L2.CX P w) P w K mg base N_modulus_of "modulus_of" (defScope s_modulus_of) f cdv A outer s H E) E 0) :
    ASs (cxOf (L2.CX P w) P w K mg base N_modulus_of "modulus_of" (defScope s_modulus_of) f cdv A outer s H E) E (defBody s_modulus_of) (FM.w_modulus_of z) :=
  (ass_one (as_ret (ae_if (AW.at (aw_and (at_isnot (ae_var 1) ae_non) (aw_and1 (at_gt (ae_var 0) (ae_var 1))))) ae_int (ae_var 0))))
theorem d_shared {z : Ad} (T : Txt K mg z) (C_common_divisor : Cal false P w K mg base "common_divisor" 1 2 [] (fun ds _ => ds) (FM.S_common_divisor z)) (C_modulus_of : Cal false P w K mg base "modulus_of" 1 2 [] (fun ds _ => ds) (FM.S_modulus_of z)) {f : Addr} (cdv : Value) (A : Around) (outer : List PySem.Env) (s : Shared) (H : Hp) (E : XK) (c : Cg false (cxOf (L2.CX P w) P w K mg base N_shared "shared" (defScope s_shared) f cdv A outer s H E) E 1) :
    ASs (cxOf (L2.CX P w) P w K mg base N_shared "shared" (defScope s_shared) f cdv A outer s H E) E (defBody s_shared) (FM.w_shared z) :=
  (ass_one (as_ret (ae_call c C_common_divisor (by decide) (by decide) (aa_cons (ae_call c C_modulus_of (by decide) (by decide) (aa_cons (ae_var 0) (aa_cons (ae_var 2) aa_nil))) (aa_cons (ae_call c C_modulus_of (by decide) (by decide) (aa_cons (ae_var 1) (aa_cons (ae_var 2) aa_nil))) aa_nil)))))
theorem d_do_agree {z : Ad} (T : Txt K mg z) (C_shared : Cal false P w K mg base "shared" 2 3 [] (fun ds _ => ds) (FM.S_shared z)) {f : Addr} (cdv : Value) (A : Around) (outer : List PySem.Env) (s : Shared) (H : Hp) (E : XK) (c : Cg false (cxOf (L2.CX P w) P w K mg base N_do_agree "do_agree" (defScope s_do_agree) f cdv A outer s H E) E 2) :
    ASs (cxOf (L2.CX P w) P w K mg base N_do_agree "do_agree" (defScope s_do_agree) f cdv A outer s H E) E (defBody s_do_agree) (FM.w_do_agree z) :=
  (ass_cons (as_set 3 c.nd (ae_sub (ae_ix (ae_var 0) ae_int) (ae_ix (ae_var 1) ae_int)))
    (ass_cons (as_set 4 c.nd (ae_call c C_shared (by decide) (by decide) (aa_cons (ae_ix (ae_var 0) ae_int) (aa_cons (ae_ix (ae_var 1) ae_int) (aa_cons (ae_var 2) aa_nil)))))
    (ass_cons (as_if (AW.at (aw_or (at_eq c (ae_ix (ae_var 0) ae_int) (ae_ix (ae_var 1) ae_int)) (aw_or1 (at_eq c (ae_var 4) ae_int)))) (ass_one (as_ret (ae_eq c (ae_var 3) ae_int))) ass_nil)
    (ass_one (as_ret (ae_eq c (ae_mod (ae_var 3) (ae_var 4)) ae_int))))))
theorem d_need_capacity_meters {z : Ad} (T : Txt K mg z) (C_is_between : Cal false P w K mg base "is_between" 2 3 [] (fun ds _ => ds) (FM.S_is_between z)) (X_InvalidCapacity : XMk P w K mg base "InvalidCapacity" z.InvalidCapacity 1 ["value"]) {f : Addr} (cdv : Value) (A : Around) (outer : List PySem.Env) (s : Shared) (H : Hp) (E : XK) (c : Cg false (cxOf (L2.CX P w) P w K mg base N_need_capacity_meters "need_capacity" (defScope s_need_capacity_meters) f cdv A outer s H E) E 2) :
    ASs (cxOf (L2.CX P w) P w K mg base N_need_capacity_meters "need_capacity" (defScope s_need_capacity_meters) f cdv A outer s H E) E (defBody s_need_capacity_meters) (FM.w_need_capacity_meters z) :=
  (ass_one (as_if (at_not (at_val (ae_call c C_is_between (by decide) (by decide) (aa_cons (ae_var 0) (aa_cons ae_int (aa_cons (ae_glob T.c_MOST_READ) aa_nil)))))) (ass_one (as_raise c X_InvalidCapacity (by decide) (aa_cons (ae_var 0) aa_nil))) ass_nil))
theorem d_need_bound {z : Ad} (T : Txt K mg z) (C_is_between : Cal false P w K mg base "is_between" 2 3 [] (fun ds _ => ds) (FM.S_is_between z)) (X_InvalidBound : XMk P w K mg base "InvalidBound" z.InvalidBound 1 ["value"]) {f : Addr} (cdv : Value) (A : Around) (outer : List PySem.Env) (s : Shared) (H : Hp) (E : XK) (c : Cg false (cxOf (L2.CX P w) P w K mg base N_need_bound "need_bound" (defScope s_need_bound) f cdv A outer s H E) E 2) :
    ASs (cxOf (L2.CX P w) P w K mg base N_need_bound "need_bound" (defScope s_need_bound) f cdv A outer s H E) E (defBody s_need_bound) (FM.w_need_bound z) :=
  (ass_one (as_if (AW.at (aw_and (at_isnot (ae_var 0) ae_non) (aw_and1 (at_not (at_val (ae_call c C_is_between (by decide) (by decide) (aa_cons (ae_var 0) (aa_cons ae_int (aa_cons (ae_glob T.c_MOST_READ) aa_nil))))))))) (ass_one (as_raise c X_InvalidBound (by decide) (aa_cons (ae_var 0) aa_nil))) ass_nil))
theorem d_Meter___init__ {z : Ad} (T : Txt K mg z) (C_need_bound : Cal false P w K mg base "need_bound" 3 1 [] (fun ds _ => ds) (FM.S_need_bound z)) {f : Addr} (cdv : Value) (A : Around) (outer : List PySem.Env) (s : Shared) (H : Hp) (E : XK) (c : Cg false (cxOf (L2.CX P w) P w K mg base N_Meter___init__ "Meter.__init__" (defScope s_Meter___init__) f cdv A outer s H E) E 3) :
    ASs (cxOf (L2.CX P w) P w K mg base N_Meter___init__ "Meter.__init__" (defScope s_Meter___init__) f cdv A outer s H E) E (defBody s_Meter___init__) (FM.w_Meter___init__ z) :=
  (ass_cons (as_expr (ae_call c C_need_bound (by decide) (by decide) (aa_cons (ae_var 1) aa_nil)))
    (ass_cons (as_fld T.k_Meter T.n_Meter_noted (ae_var 0) (ae_tup aa_nil))
    (ass_cons (as_fld T.k_Meter T.n_Meter_edge (ae_var 0) (ae_var 1))
    (ass_one (as_fld T.k_Meter T.n_Meter_earlier (ae_var 0) (ae_tup aa_nil))))))
theorem d_Meter_readings {z : Ad} (T : Txt K mg z)  {f : Addr} (cdv : Value) (A : Around) (outer : List PySem.Env) (s : Shared) (H : Hp) (E : XK) (c : Cg false (cxOf (L2.CX P w) P w K mg base N_Meter_readings "Meter.readings" (defScope s_Meter_readings) f cdv A outer s H E) E 0) :
    ASs (cxOf (L2.CX P w) P w K mg base N_Meter_readings "Meter.readings" (defScope s_Meter_readings) f cdv A outer s H E) E (defBody s_Meter_readings) (FM.w_Meter_readings z) :=
  (ass_one (as_ret (ae_fld T.k_Meter T.n_Meter_noted (ae_var 0))))
theorem d_Meter_most {z : Ad} (T : Txt K mg z)  {f : Addr} (cdv : Value) (A : Around) (outer : List PySem.Env) (s : Shared) (H : Hp) (E : XK) (c : Cg false (cxOf (L2.CX P w) P w K mg base N_Meter_most "Meter.most" (defScope s_Meter_most) f cdv A outer s H E) E 0) :
    ASs (cxOf (L2.CX P w) P w K mg base N_Meter_most "Meter.most" (defScope s_Meter_most) f cdv A outer s H E) E (defBody s_Meter_most) (FM.w_Meter_most z) :=
  (ass_one (as_ret (ae_fld T.k_Meter T.n_Meter_edge (ae_var 0))))
theorem d_Meter_steps {z : Ad} (T : Txt K mg z)  {f : Addr} (cdv : Value) (A : Around) (outer : List PySem.Env) (s : Shared) (H : Hp) (E : XK) (c : Cg false (cxOf (L2.CX P w) P w K mg base N_Meter_steps "Meter.steps" (defScope s_Meter_steps) f cdv A outer s H E) E 0) :
    ASs (cxOf (L2.CX P w) P w K mg base N_Meter_steps "Meter.steps" (defScope s_Meter_steps) f cdv A outer s H E) E (defBody s_Meter_steps) (FM.w_Meter_steps z) :=
  (ass_one (as_ret (ae_b dLen_ok T.z_len bb_len (aa_cons (ae_fld T.k_Meter T.n_Meter_earlier (ae_var 0)) aa_nil))))
theorem d_Meter_settle {z : Ad} (T : Txt K mg z)  {f : Addr} (cdv : Value) (A : Around) (outer : List PySem.Env) (s : Shared) (H : Hp) (E : XK) (c : Cg false (cxOf (L2.CX P w) P w K mg base N_Meter_settle "Meter.settle" (defScope s_Meter_settle) f cdv A outer s H E) E 0) :
    ASs (cxOf (L2.CX P w) P w K mg base N_Meter_settle "Meter.settle" (defScope s_Meter_settle) f cdv A outer s H E) E (defBody s_Meter_settle) (FM.w_Meter_settle z) :=
  (ass_cons (as_fld T.k_Meter T.n_Meter_earlier (ae_var 0) (ae_add false (ae_fld T.k_Meter T.n_Meter_earlier (ae_var 0)) (ae_tup (aa_cons (ae_tup (aa_cons (ae_fld T.k_Meter T.n_Meter_noted (ae_var 0)) (aa_cons (ae_fld T.k_Meter T.n_Meter_edge (ae_var 0)) aa_nil))) aa_nil))))
    (ass_cons (as_fld T.k_Meter T.n_Meter_noted (ae_var 0) (ae_var 1))
    (ass_one (as_fld T.k_Meter T.n_Meter_edge (ae_var 0) (ae_var 2)))))
theorem d_Meter_take {z : Ad} (T : Txt K mg z) (C_do_agree : Cal false P w K mg base "do_agree" 3 3 [] (fun ds _ => ds) (FM.S_do_agree z)) (IN_Meter : InC P w K mg base z.Meter 2 (FM.S_Meter___contains__ z)) (R_Meter_settle : MetC P w K mg base z.Meter "settle" 1 (FM.S_Meter_settle z)) (X_Contradiction : XMk P w K mg base "Contradiction" z.Contradiction 1 ["first", "second"]) {f : Addr} (cdv : Value) (A : Around) (outer : List PySem.Env) (s : Shared) (H : Hp) (E : XK) (c : Cg false (cxOf (L2.CX P w) P w K mg base N_Meter_take "Meter.take" (defScope s_Meter_take) f cdv A outer s H E) E 3) :
    ASs (cxOf (L2.CX P w) P w K mg base N_Meter_take "Meter.take" (defScope s_Meter_take) f cdv A outer s H E) E (defBody s_Meter_take) (FM.w_Meter_take z) :=
  (ass_cons (as_set 3 c.nd (ae_tup (aa_cons (ae_var 1) (aa_cons (ae_var 2) aa_nil))))
    (ass_cons (as_for c (ai_tup (ae_fld T.k_Meter T.n_Meter_noted (ae_var 0))) (ag_name 4 c.nd) (ass_one (as_if (at_not (at_val (ae_call c C_do_agree (by decide) (by decide) (aa_cons (ae_var 4) (aa_cons (ae_var 3) (aa_cons (ae_fld T.k_Meter T.n_Meter_edge (ae_var 0)) aa_nil)))))) (ass_one (as_raise c X_Contradiction (by decide) (aa_cons (ae_ix (ae_var 4) ae_int) (aa_cons (ae_var 1) aa_nil)))) ass_nil)))
    (ass_one (as_expr (ag_met c R_Meter_settle (by decide) (ae_var 0) (aa_cons (ae_if (at_inX c IN_Meter (by decide) (ae_var 1) (ae_var 0)) (ae_fld T.k_Meter T.n_Meter_noted (ae_var 0)) (ae_add false (ae_fld T.k_Meter T.n_Meter_noted (ae_var 0)) (ae_tup (aa_cons (ae_var 3) aa_nil)))) (aa_cons (ae_fld T.k_Meter T.n_Meter_edge (ae_var 0)) aa_nil)))))))
theorem d_Meter_add {z : Ad} (T : Txt K mg z) (C_is_between : Cal false P w K mg base "is_between" 2 3 [] (fun ds _ => ds) (FM.S_is_between z)) (C_need_capacity_meters : Cal false P w K mg base "need_capacity_meters" 3 1 [] (fun ds _ => ds) (FM.S_need_capacity_meters z)) (R_Meter_take : MetC P w K mg base z.Meter "take" 4 (FM.S_Meter_take z)) (X_InvalidReading : XMk P w K mg base "InvalidReading" z.InvalidReading 1 ["value"]) {f : Addr} (cdv : Value) (A : Around) (outer : List PySem.Env) (s : Shared) (H : Hp) (E : XK) (c : Cg false (cxOf (L2.CX P w) P w K mg base N_Meter_add "Meter.add" (defScope s_Meter_add) f cdv A outer s H E) E 4) :
    ASs (cxOf (L2.CX P w) P w K mg base N_Meter_add "Meter.add" (defScope s_Meter_add) f cdv A outer s H E) E (defBody s_Meter_add) (FM.w_Meter_add z) :=
  (ass_cons (as_expr (ae_call c C_need_capacity_meters (by decide) (by decide) (aa_cons (ae_var 1) aa_nil)))
    (ass_cons (as_if (at_not (at_val (ae_call c C_is_between (by decide) (by decide) (aa_cons (ae_var 2) (aa_cons ae_int (aa_cons (ae_glob T.c_MOST_LENGTH) aa_nil)))))) (ass_one (as_raise c X_InvalidReading (by decide) (aa_cons (ae_var 2) aa_nil))) ass_nil)
    (ass_one (as_expr (ag_met c R_Meter_take (by decide) (ae_var 0) (aa_cons (ae_var 1) (aa_cons (ae_var 2) aa_nil)))))))
theorem d_Meter___len__ {z : Ad} (T : Txt K mg z)  {f : Addr} (cdv : Value) (A : Around) (outer : List PySem.Env) (s : Shared) (H : Hp) (E : XK) (c : Cg false (cxOf (L2.CX P w) P w K mg base N_Meter___len__ "Meter.__len__" (defScope s_Meter___len__) f cdv A outer s H E) E 0) :
    ASs (cxOf (L2.CX P w) P w K mg base N_Meter___len__ "Meter.__len__" (defScope s_Meter___len__) f cdv A outer s H E) E (defBody s_Meter___len__) (FM.w_Meter___len__ z) :=
  (ass_one (as_ret (ae_b dLen_ok T.z_len bb_len (aa_cons (ae_fld T.k_Meter T.n_Meter_noted (ae_var 0)) aa_nil))))
theorem d_Meter___contains__ {z : Ad} (T : Txt K mg z) (C_is_integer : Cal false P w K mg base "is_integer" 1 1 [] (fun ds _ => ds) (FM.S_is_integer z)) {f : Addr} (cdv : Value) (A : Around) (outer : List PySem.Env) (s : Shared) (H : Hp) (E : XK) (c : Cg false (cxOf (L2.CX P w) P w K mg base N_Meter___contains__ "Meter.__contains__" (defScope s_Meter___contains__) f cdv A outer s H E) E 1) :
    ASs (cxOf (L2.CX P w) P w K mg base N_Meter___contains__ "Meter.__contains__" (defScope s_Meter___contains__) f cdv A outer s H E) E (defBody s_Meter___contains__) (FM.w_Meter___contains__ z) :=
  (ass_one (as_ret (ae_and (ae_call c C_is_integer (by decide) (by decide) (aa_cons (ae_var 1) aa_nil)) (ae_one (ae_b (dAny_ok c.calm) T.z_any bb_any (aa_cons (ae_lc false (own := [("capacity", 2), ("length", 3)]) c (ai_tup (ae_fld T.k_Meter T.n_Meter_noted (ae_var 0))) (show BlkOk N_Meter___contains__ (defScope s_Meter___contains__) _ [("capacity", 2), ("length", 3)] from ⟨rfl, by decide +kernel, by decide +kernel, by decide +kernel, by decide +kernel⟩) (gw_tup (is := [2, 3]) (by decide)) (fun s H C cl fp => pg_tup c.calm (pgs_cons (pg_name (i := 2) c.nd rfl (by first | exact Or.inl rfl | exact Or.inr rfl)) (pgs_cons (pg_name (i := 3) c.nd rfl (by first | exact Or.inl rfl | exact Or.inr rfl)) pgs_nil))) (fun s H C cl fp c => ats_nil) (fun s H C cl fp c => (ae_eq c (ae_var 2) (ae_var 1)))) aa_nil))))))
theorem d_Meter___getitem__ {z : Ad} (T : Txt K mg z) (C_is_integer : Cal false P w K mg base "is_integer" 1 1 [] (fun ds _ => ds) (FM.S_is_integer z)) (X_NoReading : XMk P w K mg base "NoReading" z.NoReading 1 ["asked"]) {f : Addr} (cdv : Value) (A : Around) (outer : List PySem.Env) (s : Shared) (H : Hp) (E : XK) (c : Cg false (cxOf (L2.CX P w) P w K mg base N_Meter___getitem__ "Meter.__getitem__" (defScope s_Meter___getitem__) f cdv A outer s H E) E 2) :
    ASs (cxOf (L2.CX P w) P w K mg base N_Meter___getitem__ "Meter.__getitem__" (defScope s_Meter___getitem__) f cdv A outer s H E) E (defBody s_Meter___getitem__) (FM.w_Meter___getitem__ z) :=
  (ass_cons (as_setLc false 2 (own := [("capacity", 3), ("length", 4)]) c (ai_tup (ae_fld T.k_Meter T.n_Meter_noted (ae_var 0))) (show BlkOk N_Meter___getitem__ (defScope s_Meter___getitem__) _ [("capacity", 3), ("length", 4)] from ⟨rfl, by decide +kernel, by decide +kernel, by decide +kernel, by decide +kernel⟩) (gw_tup (is := [3, 4]) (by decide)) (fun s H C cl fp => pg_tup c.calm (pgs_cons (pg_name (i := 3) c.nd rfl (by first | exact Or.inl rfl | exact Or.inr rfl)) (pgs_cons (pg_name (i := 4) c.nd rfl (by first | exact Or.inl rfl | exact Or.inr rfl)) pgs_nil))) (fun s H C cl fp c => ats_one (AW.at (aw_and (at_val (ae_call c C_is_integer (by decide) (by decide) (aa_cons (ae_var 1) aa_nil))) (aw_and1 (at_eq c (ae_var 3) (ae_var 1)))))) (fun s H C cl fp c => (ae_var 4)))
    (ass_cons (as_if (at_eqE c (ae_var 2) (ae_lst false aa_nil)) (ass_one (as_raise c X_NoReading (by decide) (aa_cons (ae_var 1) aa_nil))) ass_nil)
    (ass_one (as_ret (ae_ix (ae_var 2) ae_int)))))
theorem d__law_pen {z : Ad} (T : Txt K mg z)  {f : Addr} (cdv : Value) (A : Around) (outer : List PySem.Env) (s : Shared) (H : Hp) (E : XK) (c : Cg false (cxOf (L2.CX P w) P w K mg base N__law_pen "_law_pen" (defScope s__law_pen) f cdv A outer s H E) E 0) :
    ASs (cxOf (L2.CX P w) P w K mg base N__law_pen "_law_pen" (defScope s__law_pen) f cdv A outer s H E) E (defBody s__law_pen) (FM.w__law_pen z) :=
  (ass_one (as_ret (ae_lst true (aa_cons (ae_bt (dListOf_ok (m := false)) T.z_list bb_list (aa_cons (ae_sl false (ae_var 0) ao_none (ao_some ae_int)) aa_nil)) (aa_cons ae_int (aa_cons ae_int aa_nil))))))
theorem d__law_draw {z : Ad} (T : Txt K mg z)  {f : Addr} (cdv : Value) (A : Around) (outer : List PySem.Env) (s : Shared) (H : Hp) (E : XK) (c : Cg false (cxOf (L2.CX P w) P w K mg base N__law_draw "_law_draw" (defScope s__law_draw) f cdv A outer s H E) E 0) :
    ASs (cxOf (L2.CX P w) P w K mg base N__law_draw "_law_draw" (defScope s__law_draw) f cdv A outer s H E) E (defBody s__law_draw) (FM.w__law_draw z) :=
  (ass_cons (as_if (at_gt (ae_ix (ae_var 0) ae_int) ae_int) (ass_cons (as_set 2 c.nd (ae_mod (ae_ix (ae_var 0) ae_int) (ae_var 1)))
    (ass_cons (as_asg (ae_div (ae_ix (ae_var 0) ae_int) (ae_var 1)) (ag_subL (ae_var 0) ae_int (fun _ => rfl)))
    (ass_one (as_ret (ae_var 2))))) ass_nil)
    (ass_cons (as_set 3 c.nd (ae_ix (ae_var 0) ae_int))
    (ass_cons (as_asg (ae_add false (ae_var 3) ae_int) (ag_subL (ae_var 0) ae_int (fun _ => rfl)))
    (ass_cons (as_set 4 c.nd (ae_add false (ae_mul false ae_int (ae_var 3)) ae_int))
    (ass_cons (as_if (at_ne c (ae_ix (ae_var 0) ae_int) (ae_lst false aa_nil)) (ass_one (as_set 4 c.nd (ae_ix (ae_ix (ae_var 0) ae_int) (ae_mod (ae_var 3) (ae_b dLen_ok T.z_len bb_len (aa_cons (ae_ix (ae_var 0) ae_int) aa_nil)))))) ass_nil)
    (ass_cons (as_if (AW.at (aw_and (at_lt (ae_var 3) (ae_b dLen_ok T.z_len bb_len (aa_cons (ae_ix (ae_var 0) ae_int) aa_nil))) (aw_and1 (at_ge (ae_b dAbs_ok T.z_abs bb_abs (aa_cons (ae_var 4) aa_nil)) (ae_pow ae_int ae_int))))) (ass_cons (as_set 5 c.nd (ae_add false (ae_mul false ae_int (ae_b dAbs_ok T.z_abs bb_abs (aa_cons (ae_var 4) aa_nil))) (ae_bt dInt_ok T.z_int bb_int (aa_cons (ae_lt (ae_var 4) ae_int) aa_nil))))
    (ass_cons (as_asg (ae_div (ae_var 5) (ae_var 1)) (ag_subL (ae_var 0) ae_int (fun _ => rfl)))
    (ass_one (as_ret (ae_mod (ae_var 5) (ae_var 1)))))) ass_nil)
    (ass_cons (as_set 6 c.nd (ae_mod (ae_pow (ae_add false (ae_add false (ae_add false (ae_mod (ae_var 4) ae_int) (ae_mul false (ae_mul false ae_int (ae_var 3)) (ae_var 3))) (ae_mul false ae_int (ae_var 3))) ae_int) ae_int) ae_int))
    (ass_cons (as_set 6 c.nd (ae_mod (ae_pow (ae_add false (ae_add false (ae_mul false (ae_var 6) (ae_add false (ae_mul false ae_int (ae_var 3)) ae_int)) (ae_mul false ae_int (ae_var 3))) ae_int) ae_int) ae_int))
    (ass_one (as_ret (ae_mod (ae_div (ae_var 6) ae_int) (ae_var 1))))))))))))
theorem d__law_divisor {z : Ad} (T : Txt K mg z)  {f : Addr} (cdv : Value) (A : Around) (outer : List PySem.Env) (s : Shared) (H : Hp) (E : XK) (c : Cg false (cxOf (L2.CX P w) P w K mg base N__law_divisor "_law_divisor" (defScope s__law_divisor) f cdv A outer s H E) E 0) :
    ASs (cxOf (L2.CX P w) P w K mg base N__law_divisor "_law_divisor" (defScope s__law_divisor) f cdv A outer s H E) E (defBody s__law_divisor) (FM.w__law_divisor z) :=
  (ass_cons (as_while c (at_gt (ae_var 1) ae_int) (ass_one (as_par 0 1 c (by decide) (aa_cons (ae_var 1) (aa_cons (ae_mod (ae_var 0) (ae_var 1)) aa_nil)))))
    (ass_one (as_ret (ae_var 0))))
theorem d__law_agree {z : Ad} (T : Txt K mg z) (C__law_divisor : Cal false P w K mg base "_law_divisor" 1 2 [] (fun ds _ => ds) (FM.S__law_divisor z)) {f : Addr} (cdv : Value) (A : Around) (outer : List PySem.Env) (s : Shared) (H : Hp) (E : XK) (c : Cg false (cxOf (L2.CX P w) P w K mg base N__law_agree "_law_agree" (defScope s__law_agree) f cdv A outer s H E) E 1) :
    ASs (cxOf (L2.CX P w) P w K mg base N__law_agree "_law_agree" (defScope s__law_agree) f cdv A outer s H E) E (defBody s__law_agree) (FM.w__law_agree z) :=
  (ass_cons (as_set 3 c.nd (ae_sub (ae_ix (ae_var 0) ae_int) (ae_ix (ae_var 1) ae_int)))
    (ass_cons (as_if (AW.at (aw_or (at_eq c (ae_ix (ae_var 0) ae_int) (ae_ix (ae_var 1) ae_int)) (aw_or1 (at_eq c (ae_var 3) ae_int)))) (ass_one (as_ret (ae_eq c (ae_var 3) ae_int))) ass_nil)
    (ass_cons (as_setLc false 4 (own := [("_law_size_here", 6)]) c (ai_tup (ae_tup (aa_cons (ae_ix (ae_var 0) ae_int) (aa_cons (ae_ix (ae_var 1) ae_int) aa_nil)))) (show BlkOk N__law_agree (defScope s__law_agree) _ [("_law_size_here", 6)] from ⟨rfl, by decide +kernel, by decide +kernel, by decide +kernel, by decide +kernel⟩) (gw_name (i := 6) (by decide)) (fun s H C cl fp => pg_name (i := 6) c.nd rfl (by first | exact Or.inl rfl | exact Or.inr rfl)) (fun s H C cl fp c => ats_nil) (fun s H C cl fp c => (ae_mul false (ae_var 6) (ae_bt dInt_ok T.z_int bb_int (aa_cons (ae_or (ae_is (ae_var 2) ae_non) (ae_one (ae_le (ae_var 6) (ae_var 2)))) aa_nil)))))
    (ass_cons (as_set 5 c.nd (ae_call c C__law_divisor (by decide) (by decide) (aa_cons (ae_ix (ae_var 4) ae_int) (aa_cons (ae_ix (ae_var 4) ae_int) aa_nil))))
    (ass_one (as_ret (ae_and (ae_gt (ae_var 5) ae_int) (ae_one (ae_eq c (ae_mod (ae_var 3) (ae_var 5)) ae_int)))))))))
theorem d__law_size {z : Ad} (T : Txt K mg z) (C__law_draw : Cal false P w K mg base "_law_draw" 1 2 [] (fun ds _ => ds) (FM.S__law_draw z)) {f : Addr} (cdv : Value) (A : Around) (outer : List PySem.Env) (s : Shared) (H : Hp) (E : XK) (c : Cg false (cxOf (L2.CX P w) P w K mg base N__law_size "_law_size" (defScope s__law_size) f cdv A outer s H E) E 1) :
    ASs (cxOf (L2.CX P w) P w K mg base N__law_size "_law_size" (defScope s__law_size) f cdv A outer s H E) E (defBody s__law_size) (FM.w__law_size z) :=
  (ass_cons (as_set 1 c.nd (ae_lst false (aa_cons (ae_add false ae_int (ae_call c C__law_draw (by decide) (by decide) (aa_cons (ae_var 0) (aa_cons ae_int aa_nil)))) (aa_cons (ae_ix (ae_lst false (aa_cons ae_int (aa_cons ae_int (aa_cons ae_int (aa_cons ae_int (aa_cons ae_int (aa_cons ae_int (aa_cons ae_int (aa_cons ae_int aa_nil))))))))) (ae_call c C__law_draw (by decide) (by decide) (aa_cons (ae_var 0) (aa_cons ae_int aa_nil)))) (aa_cons (ae_ix (ae_lst false (aa_cons ae_int (aa_cons ae_int (aa_cons ae_int (aa_cons ae_int aa_nil))))) (ae_call c C__law_draw (by decide) (by decide) (aa_cons (ae_var 0) (aa_cons ae_int aa_nil)))) aa_nil)))))
    (ass_one (as_ret (ae_ix (ae_add false (ae_var 1) (ae_lst false (aa_cons (ae_add false ae_int (ae_call c C__law_draw (by decide) (by decide) (aa_cons (ae_var 0) (aa_cons ae_int aa_nil)))) (aa_cons (ae_sub (ae_pow ae_int ae_int) (ae_call c C__law_draw (by decide) (by decide) (aa_cons (ae_var 0) (aa_cons ae_int aa_nil)))) aa_nil)))) (ae_call c C__law_draw (by decide) (by decide) (aa_cons (ae_var 0) (aa_cons ae_int aa_nil)))))))
theorem d__law_source {z : Ad} (T : Txt K mg z) (C__law_draw : Cal false P w K mg base "_law_draw" 1 2 [] (fun ds _ => ds) (FM.S__law_draw z)) {f : Addr} (cdv : Value) (A : Around) (outer : List PySem.Env) (s : Shared) (H : Hp) (E : XK) (c : Cg false (cxOf (L2.CX P w) P w K mg base N__law_source "_law_source" (defScope s__law_source) f cdv A outer s H E) E 1) :
    ASs (cxOf (L2.CX P w) P w K mg base N__law_source "_law_source" (defScope s__law_source) f cdv A outer s H E) E (defBody s__law_source) (FM.w__law_source z) :=
  (ass_cons (as_set 1 c.nd (ae_ix (ae_lst false (aa_cons ae_int (aa_cons ae_int (aa_cons ae_int aa_nil)))) (ae_call c C__law_draw (by decide) (by decide) (aa_cons (ae_var 0) (aa_cons ae_int aa_nil)))))
    (ass_cons (as_set 2 c.nd ae_dnew)
    (ass_cons (as_for c (ai_rng1 T.z_range (aa_cons (ae_call c C__law_draw (by decide) (by decide) (aa_cons (ae_var 0) (aa_cons ae_int aa_nil))) aa_nil)) (ag_name 3 c.nd) (ass_one (as_dput c (ae_var 2) (ae_add false ae_int (ae_call c C__law_draw (by decide) (by decide) (aa_cons (ae_var 0) (aa_cons (ae_var 1) aa_nil)))) (ae_ix (ae_lst false (aa_cons ae_int (aa_cons ae_int (aa_cons (ae_neg ae_int) (aa_cons ae_int (aa_cons (ae_neg ae_int) aa_nil)))))) (ae_call c C__law_draw (by decide) (by decide) (aa_cons (ae_var 0) (aa_cons ae_int aa_nil)))))))
    (ass_one (as_ret (ae_tup (aa_cons (ae_add false (ae_ix (ae_lst false (aa_cons (ae_pow ae_int ae_int) (aa_cons (ae_pow ae_int ae_int) aa_nil))) (ae_call c C__law_draw (by decide) (by decide) (aa_cons (ae_var 0) (aa_cons ae_int aa_nil)))) (ae_call c C__law_draw (by decide) (by decide) (aa_cons (ae_var 0) (aa_cons ae_int aa_nil)))) (aa_cons (ae_bt dTupOf_ok T.z_tuple bb_tuple (aa_cons (ae_sortIt false T.z_sorted c (ae_var 2)) aa_nil)) aa_nil))))))))
theorem d__law_length {z : Ad} (T : Txt K mg z)  {f : Addr} (cdv : Value) (A : Around) (outer : List PySem.Env) (s : Shared) (H : Hp) (E : XK) (c : Cg false (cxOf (L2.CX P w) P w K mg base N__law_length "_law_length" (defScope s__law_length) f cdv A outer s H E) E 0) :
    ASs (cxOf (L2.CX P w) P w K mg base N__law_length "_law_length" (defScope s__law_length) f cdv A outer s H E) E (defBody s__law_length) (FM.w__law_length z) :=
  (ass_one (as_ret (ae_add false (ae_ix (ae_var 0) ae_int) (ae_b (dSum_ok c.calm) T.z_sum bb_sum (aa_cons (ae_lc false (own := [("_law_at", 2), ("_law_amount", 3)]) c (ai_tup (ae_ix (ae_var 0) ae_int)) (show BlkOk N__law_length (defScope s__law_length) _ [("_law_at", 2), ("_law_amount", 3)] from ⟨rfl, by decide +kernel, by decide +kernel, by decide +kernel, by decide +kernel⟩) (gw_tup (is := [2, 3]) (by decide)) (fun s H C cl fp => pg_tup c.calm (pgs_cons (pg_name (i := 2) c.nd rfl (by first | exact Or.inl rfl | exact Or.inr rfl)) (pgs_cons (pg_name (i := 3) c.nd rfl (by first | exact Or.inl rfl | exact Or.inr rfl)) pgs_nil))) (fun s H C cl fp c => ats_nil) (fun s H C cl fp c => (ae_mul false (ae_var 3) (ae_mod (ae_var 2) (ae_var 1))))) aa_nil)))))
theorem d__law_reading {z : Ad} (T : Txt K mg z) (C__law_draw : Cal false P w K mg base "_law_draw" 1 2 [] (fun ds _ => ds) (FM.S__law_draw z)) (C__law_length : Cal false P w K mg base "_law_length" 1 2 [] (fun ds _ => ds) (FM.S__law_length z)) (C__law_size : Cal false P w K mg base "_law_size" 2 1 [] (fun ds _ => ds) (FM.S__law_size z)) {f : Addr} (cdv : Value) (A : Around) (outer : List PySem.Env) (s : Shared) (H : Hp) (E : XK) (c : Cg false (cxOf (L2.CX P w) P w K mg base N__law_reading "_law_reading" (defScope s__law_reading) f cdv A outer s H E) E 2) :
    ASs (cxOf (L2.CX P w) P w K mg base N__law_reading "_law_reading" (defScope s__law_reading) f cdv A outer s H E) E (defBody s__law_reading) (FM.w__law_reading z) :=
  (ass_cons (as_set 2 c.nd (ae_call c C__law_size (by decide) (by decide) (aa_cons (ae_var 0) aa_nil)))
    (ass_cons (as_set 3 c.nd (ae_ix (ae_lst false (aa_cons ae_int (aa_cons ae_int (aa_cons ae_int (aa_cons ae_int (aa_cons (ae_sub (ae_call c C__law_draw (by decide) (by decide) (aa_cons (ae_var 0) (aa_cons ae_int aa_nil))) ae_int) (aa_cons (ae_var 2) aa_nil))))))) (ae_call c C__law_draw (by decide) (by decide) (aa_cons (ae_var 0) (aa_cons ae_int aa_nil)))))
    (ass_one (as_ret (ae_tup (aa_cons (ae_var 2) (aa_cons (ae_add false (ae_call c C__law_length (by decide) (by decide) (aa_cons (ae_var 1) (aa_cons (ae_var 2) aa_nil))) (ae_var 3)) aa_nil)))))))
theorem d__law_fields {z : Ad} (T : Txt K mg z)  {f : Addr} (cdv : Value) (A : Around) (outer : List PySem.Env) (s : Shared) (H : Hp) (E : XK) (c : Cg false (cxOf (L2.CX P w) P w K mg base N__law_fields "_law_fields" (defScope s__law_fields) f cdv A outer s H E) E 0) :
    ASs (cxOf (L2.CX P w) P w K mg base N__law_fields "_law_fields" (defScope s__law_fields) f cdv A outer s H E) E (defBody s__law_fields) (FM.w__law_fields z) :=
  (ass_cons (as_if (at_lt (ae_var 1) ae_int) (ass_one (as_ret (ae_tup (aa_cons (ae_ix (ae_lst false (aa_cons ae_str (aa_cons ae_str (aa_cons ae_str aa_nil)))) (ae_var 1)) (aa_cons (ae_xfld T.xf_value (ae_var 0)) aa_nil))))) ass_nil)
    (ass_cons (as_if (at_eq c (ae_var 1) ae_int) (ass_one (as_ret (ae_tup (aa_cons ae_str (aa_cons (ae_xfld T.xf_first (ae_var 0)) (aa_cons (ae_xfld T.xf_second (ae_var 0)) aa_nil)))))) ass_nil)
    (ass_one (as_ret (ae_if (at_eq c (ae_var 1) ae_int) (ae_tup (aa_cons ae_str (aa_cons (ae_xfld T.xf_asked (ae_var 0)) aa_nil))) (ae_tup (aa_cons ae_str (aa_cons (ae_xfld T.xf_count (ae_var 0)) aa_nil))))))))
theorem d__law_heard {z : Ad} (T : Txt K mg z) (C__law_fields : Cal false P w K mg base "_law_fields" 1 2 [] (fun ds _ => ds) (FM.S__law_fields z)) {f : Addr} (d : D) (tl : Thk) (cdv : Value) (A : Around) (outer : List PySem.Env) (s : Shared) (H : Hp) (E : XK) (c : Cg false (cxOf (L2.CX P w) P w K mg base N__law_heard "_law_heard" (defScope s__law_heard) f cdv A outer s H E) E 1) (act : ActOk (cxOf (L2.CX P w) P w K mg base N__law_heard "_law_heard" (defScope s__law_heard) f cdv A outer s H E) "_law_ask" d tl) :
    ASs (cxOf (L2.CX P w) P w K mg base N__law_heard "_law_heard" (defScope s__law_heard) f cdv A outer s H E) E (defBody s__law_heard) (FM.w__law_heard z d tl) :=
  (ass_cons (as_set 1 c.nd ae_non)
    (ass_cons (as_set 2 c.nd ae_non)
    (ass_cons (as_try 3 1 c T.xerr T.xg_EchoError T.xg_SizeError T.xg_AbsentError (fun pn xe E' tk c => (ass_one (as_set 2 c.nd (act pn xe E' _ _ tk)))) (by decide))
    (ass_cons (as_if (at_is (ae_var 1) ae_non) (ass_one (as_ret (ae_lst false (aa_cons (ae_var 2) aa_nil)))) ass_nil)
    (ass_cons (as_set 4 c.nd (ae_lst true (aa_cons (ae_b (dIsX_ok T.xtab) T.z_isinstance bb_isinstance (aa_cons (ae_var 1) (aa_cons (ae_glob T.v_InvalidCapacity) aa_nil))) (aa_cons (ae_b (dIsX_ok T.xtab) T.z_isinstance bb_isinstance (aa_cons (ae_var 1) (aa_cons (ae_glob T.v_InvalidReading) aa_nil))) (aa_cons (ae_b (dIsX_ok T.xtab) T.z_isinstance bb_isinstance (aa_cons (ae_var 1) (aa_cons (ae_glob T.v_InvalidBound) aa_nil))) aa_nil)))))
    (ass_cons (as_set 4 c.nd (ae_add true (ae_var 4) (ae_lst false (aa_cons (ae_b (dIsX_ok T.xtab) T.z_isinstance bb_isinstance (aa_cons (ae_var 1) (aa_cons (ae_glob T.v_Contradiction) aa_nil))) (aa_cons (ae_b (dIsX_ok T.xtab) T.z_isinstance bb_isinstance (aa_cons (ae_var 1) (aa_cons (ae_glob T.v_NoReading) aa_nil))) aa_nil)))))
    (ass_cons (as_expr (ae_append (ae_var 4) (aa_cons (ae_b (dIsX_ok T.xtab) T.z_isinstance bb_isinstance (aa_cons (ae_var 1) (aa_cons (ae_glob T.v_NothingToUndo) aa_nil))) aa_nil)))
    (ass_cons (as_set 5 c.nd (ae_b (dIsXT_ok T.xtab) T.z_isinstance bb_isinstance (aa_cons (ae_var 1) (aa_cons (ae_tup (aa_cons (ae_glob T.v_InvalidAccount) (aa_cons (ae_glob T.v_InvalidMode) (aa_cons (ae_glob T.v_InvalidNumber) (aa_cons (ae_glob T.v_InvalidProgram) (aa_cons (ae_glob T.v_InvalidRow) (aa_cons (ae_glob T.v_InvalidTable) aa_nil))))))) aa_nil))))
    (ass_cons (as_set 5 c.nd (ae_orT (ae_var 5) (ae_one (ae_b (dIsXT_ok T.xtab) T.z_isinstance bb_isinstance (aa_cons (ae_var 1) (aa_cons (ae_tup (aa_cons (ae_glob T.v_DifferentModes) (aa_cons (ae_glob T.v_InvalidText) (aa_cons (ae_glob T.v_Lossy) (aa_cons (ae_glob T.v_UnknownCommand) (aa_cons (ae_glob T.v_SizeError) (aa_cons (ae_glob T.v_NoName) aa_nil))))))) aa_nil))))))
    (ass_cons (as_if (AW.at (aw_or (at_truth (ae_var 5)) (aw_or (at_val (ae_b (dIsXT_ok T.xtab) T.z_isinstance bb_isinstance (aa_cons (ae_var 1) (aa_cons (ae_tup (aa_cons (ae_glob T.v_Finished) (aa_cons (ae_glob T.v_NoPlace) (aa_cons (ae_glob T.v_NoPoint) aa_nil)))) aa_nil)))) (aw_or1 (at_ne c (ae_countB (ae_var 4) (aa_cons ae_bl aa_nil)) ae_int))))) (ass_one (as_ret (ae_tup (aa_cons ae_str aa_nil)))) ass_nil)
    (ass_cons (as_set 6 c.nd (ae_indexB (ae_var 4) (aa_cons ae_bl aa_nil)))
    (ass_cons (as_if (AW.at (aw_or (at_ne c (ae_b (dIsX_ok T.xtab) T.z_isinstance bb_isinstance (aa_cons (ae_var 1) (aa_cons (ae_ty T.z_ValueError (by decide +kernel)) aa_nil))) (ae_lt (ae_var 6) ae_int)) (aw_or1 (at_ne c (ae_b (dIsX_ok T.xtab) T.z_isinstance bb_isinstance (aa_cons (ae_var 1) (aa_cons (ae_ty T.z_LookupError (by decide +kernel)) aa_nil))) (ae_gt (ae_var 6) ae_int))))) (ass_one (as_ret (ae_tup (aa_cons ae_str aa_nil)))) ass_nil)
    (ass_one (as_ret (ae_call c C__law_fields (by decide) (by decide) (aa_cons (ae_var 1) (aa_cons (ae_var 6) aa_nil)))))))))))))))))
theorem d__law_odd {z : Ad} (T : Txt K mg z) (C__law_draw : Cal false P w K mg base "_law_draw" 1 2 [] (fun ds _ => ds) (FM.S__law_draw z)) {f : Addr} (cdv : Value) (A : Around) (outer : List PySem.Env) (s : Shared) (H : Hp) (E : XK) (c : Cg false (cxOf (L2.CX P w) P w K mg base N__law_odd "_law_odd" (defScope s__law_odd) f cdv A outer s H E) E 1) :
    ASs (cxOf (L2.CX P w) P w K mg base N__law_odd "_law_odd" (defScope s__law_odd) f cdv A outer s H E) E (defBody s__law_odd) (w__law_odd z) :=
  (ass_cons (as_set 1 c.nd (ae_lst false (aa_cons (ae_neg ae_int) (aa_cons ae_bl (aa_cons ae_bl (aa_cons ae_non (aa_cons ae_str (aa_cons (ae_tup (aa_cons ae_int aa_nil)) (aa_cons (ae_lst false (aa_cons ae_int aa_nil)) (aa_cons ae_dnewF (aa_cons (ae_pow ae_int ae_int) (aa_cons (ae_sub ae_int (ae_pow ae_int ae_int)) (aa_cons ae_str aa_nil)))))))))))))
    (ass_one (as_ret (ae_ix (ae_var 1) (ae_call c C__law_draw (by decide) (by decide) (aa_cons (ae_var 0) (aa_cons ae_int aa_nil)))))))
theorem d__law_added {z : Ad} (T : Txt K mg z) (C__law_agree : Cal false P w K mg base "_law_agree" 2 3 [] (fun ds _ => ds) (FM.S__law_agree z)) {f : Addr} (cdv : Value) (A : Around) (outer : List PySem.Env) (s : Shared) (H : Hp) (E : XK) (c : Cg false (cxOf (L2.CX P w) P w K mg base N__law_added "_law_added" (defScope s__law_added) f cdv A outer s H E) E 2) :
    ASs (cxOf (L2.CX P w) P w K mg base N__law_added "_law_added" (defScope s__law_added) f cdv A outer s H E) E (defBody s__law_added) (w__law_added z) :=
  (ass_cons (as_if (AW.at (aw_or (at_not (at_val (ae_b dIsi_ok T.z_isinstance bb_isinstance (aa_cons (ae_var 2) (aa_cons (ae_ty T.z_int bb_int) aa_nil))))) (aw_or (at_val (ae_b dIsi_ok T.z_isinstance bb_isinstance (aa_cons (ae_var 2) (aa_cons (ae_ty T.z_bool bb_bool) aa_nil)))) (aw_or1 (at_not (at_chain2 dCmpI_ok dCmpI_ok op_le op_le ae_int (ae_var 2) (ae_pow ae_int ae_int))))))) (ass_one (as_ret (ae_tup (aa_cons ae_str (aa_cons (ae_var 2) aa_nil))))) ass_nil)
    (ass_cons (as_if (AW.at (aw_or (at_not (at_val (ae_b dIsi_ok T.z_isinstance bb_isinstance (aa_cons (ae_var 3) (aa_cons (ae_ty T.z_int bb_int) aa_nil))))) (aw_or (at_val (ae_b dIsi_ok T.z_isinstance bb_isinstance (aa_cons (ae_var 3) (aa_cons (ae_ty T.z_bool bb_bool) aa_nil)))) (aw_or1 (at_not (at_chain2 dCmpI_ok dCmpI_ok op_le op_le ae_int (ae_var 3) (ae_pow ae_int ae_int))))))) (ass_one (as_ret (ae_tup (aa_cons ae_str (aa_cons (ae_var 3) aa_nil))))) ass_nil)
    (ass_cons (as_for c (ai_list (ae_var 0)) (ag_name 4 c.nd) (ass_one (as_if (at_not (at_val (ae_call c C__law_agree (by decide) (by decide) (aa_cons (ae_var 4) (aa_cons (ae_tup (aa_cons (ae_var 2) (aa_cons (ae_var 3) aa_nil))) (aa_cons (ae_var 1) aa_nil)))))) (ass_one (as_ret (ae_tup (aa_cons ae_str (aa_cons (ae_ix (ae_var 4) ae_int) (aa_cons (ae_var 2) aa_nil)))))) ass_nil)))
    (ass_cons (as_if (at_notinD c (ae_tup (aa_cons (ae_var 2) (aa_cons (ae_var 3) aa_nil))) (ae_var 0)) (ass_one (as_expr (ae_append (ae_var 0) (aa_cons (ae_tup (aa_cons (ae_var 2) (aa_cons (ae_var 3) aa_nil))) aa_nil)))) ass_nil)
    (ass_one (as_ret (ae_lst false (aa_cons ae_non aa_nil))))))))
theorem d__law_stands {z : Ad} (T : Txt K mg z) (C__law_draw : Cal false P w K mg base "_law_draw" 1 2 [] (fun ds _ => ds) (FM.S__law_draw z)) (C__law_odd : Cal false P w K mg base "_law_odd" 2 1 [] (fun ds _ => ds) (S__law_odd z)) (IN_Meter : InC P w K mg base z.Meter 2 (FM.S_Meter___contains__ z)) (R_Meter___getitem__ : IxC P w K mg base z.Meter 3 (FM.S_Meter___getitem__ z)) (LN_Meter : LenC P w K mg base z.Meter 1 (FM.S_Meter___len__ z)) (R_Meter_most : PrpC P w K mg base z.Meter "most" 1 (FM.S_Meter_most z)) (R_Meter_readings : PrpC P w K mg base z.Meter "readings" 1 (FM.S_Meter_readings z)) (R_Meter_steps : PrpC P w K mg base z.Meter "steps" 1 (FM.S_Meter_steps z)) (H__law_heard : HCal P w K mg base false "_law_heard" 1 (FM.S__law_heard z)) {cc : Addr} (TB : LamX.TabB base mg cc z.t1) {f : Addr} (A : Around) (outer : List PySem.Env) (s : Shared) (H : Hp) (E : XK) (c : Cg true (cxOf (L2.CX P w) P w K mg base N__law_stands "_law_stands" (defScope s__law_stands) f (.ref cc) A outer s H E) E 6) :
    ASs (cxOf (L2.CX P w) P w K mg base N__law_stands "_law_stands" (defScope s__law_stands) f (.ref cc) A outer s H E) E (defBody s__law_stands) (w__law_stands z) :=
  (ass_cons (as_set 5 c.nd (ae_lst false (aa_cons (ae_bt dTupOf_ok T.z_tuple bb_tuple (aa_cons (ae_var 2) aa_nil)) (aa_cons (ae_b dLen_ok T.z_len bb_len (aa_cons (ae_var 2) aa_nil)) (aa_cons (ae_var 3) (aa_cons (ae_var 4) aa_nil))))))
    (ass_cons (as_if (at_ne c (ae_b (dReprQ_ok (c.gd rfl) c.room.units) T.z_repr bb_repr (aa_cons (ae_lst false (aa_cons (ag_prop c R_Meter_readings (by decide) (ae_var 1)) (aa_cons (ae_b (dLenO_ok c LN_Meter (by decide)) T.z_len bb_len (aa_cons (ae_var 1) aa_nil)) (aa_cons (ag_prop c R_Meter_steps (by decide) (ae_var 1)) (aa_cons (ag_prop c R_Meter_most (by decide) (ae_var 1)) aa_nil))))) aa_nil)) (ae_b (dReprQ_ok (c.gd rfl) c.room.units) T.z_repr bb_repr (aa_cons (ae_var 5) aa_nil))) (ass_one (as_ret ae_bl)) ass_nil)
    (ass_cons (as_if (at_neE c (ae_lc false (own := [("_law_size_here", 9), ("_law_worth", 10)]) c (ai_list (ae_var 2)) (show BlkOk N__law_stands (defScope s__law_stands) _ [("_law_size_here", 9), ("_law_worth", 10)] from ⟨rfl, by decide +kernel, by decide +kernel, by decide +kernel, by decide +kernel⟩) (gw_tup (is := [9, 10]) (by decide)) (fun s H C cl fp => pg_tup c.calm (pgs_cons (pg_name (i := 9) c.nd rfl (by first | exact Or.inl rfl | exact Or.inr rfl)) (pgs_cons (pg_name (i := 10) c.nd rfl (by first | exact Or.inl rfl | exact Or.inr rfl)) pgs_nil))) (fun s H C cl fp c => ats_one (AW.at (aw_or (at_notinX c IN_Meter (by decide) (ae_var 9) (ae_var 1)) (aw_or1 (at_ne c (ag_ixX c R_Meter___getitem__ (by decide) (ae_var 1) (ae_var 9)) (ae_var 10)))))) (fun s H C cl fp c => ae_int)) (ae_lst false aa_nil)) (ass_one (as_ret ae_bl)) ass_nil)
    (ass_cons (as_set 6 c.nd (ae_ix (ae_lst false (aa_cons (ae_call c C__law_odd (by decide) (by decide) (aa_cons (ae_var 0) aa_nil)) (aa_cons (ae_add false ae_int (ae_call c C__law_draw (by decide) (by decide) (aa_cons (ae_var 0) (aa_cons ae_int aa_nil)))) (aa_cons ae_int (aa_cons ae_int aa_nil))))) (ae_call c C__law_draw (by decide) (by decide) (aa_cons (ae_var 0) (aa_cons ae_int aa_nil)))))
    (ass_cons (as_setLc false 7 (own := [("_law_size_here", 9), ("_law_worth", 10)]) c (ai_list (ae_var 2)) (show BlkOk N__law_stands (defScope s__law_stands) _ [("_law_size_here", 9), ("_law_worth", 10)] from ⟨rfl, by decide +kernel, by decide +kernel, by decide +kernel, by decide +kernel⟩) (gw_tup (is := [9, 10]) (by decide)) (fun s H C cl fp => pg_tup c.calm (pgs_cons (pg_name (i := 9) c.nd rfl (by first | exact Or.inl rfl | exact Or.inr rfl)) (pgs_cons (pg_name (i := 10) c.nd rfl (by first | exact Or.inl rfl | exact Or.inr rfl)) pgs_nil))) (fun s H C cl fp c => ats_one (AW.at (aw_and (at_eqM c (ae_var 9) (ae_var 6)) (aw_and1 (at_not (at_val (ae_b dIsi_ok T.z_isinstance bb_isinstance (aa_cons (ae_var 6) (aa_cons (ae_ty T.z_bool bb_bool) aa_nil))))))))) (fun s H C cl fp c => (ae_var 10)))
    (ass_cons (as_set 8 c.nd (ae_heard c H__law_heard (by decide) TB rfl (by decide) (fun A outer s H E' f c' c => (ag_ixX c R_Meter___getitem__ (by decide) (ae_var 1) (ae_var 6))) (LamX.lamS_by (show LamX.lamSB (defScope s__law_stands) _ = true from by decide +kernel)) (by decide)))
    (ass_cons (as_if (at_neE c (ae_var 7) (ae_lst false aa_nil)) (ass_one (as_ret (ae_and (ae_eq c (ae_var 8) (ae_var 7)) (ae_one (ae_is (ag_inX c IN_Meter (by decide) (ae_var 6) (ae_var 1)) ae_bl))))) ass_nil)
    (ass_one (as_ret (ae_and (ae_eq c (ae_b (dReprQ_ok (c.gd rfl) c.room.units) T.z_repr bb_repr (aa_cons (ae_var 8) aa_nil)) (ae_b (dReprQ_ok (c.gd rfl) c.room.units) T.z_repr bb_repr (aa_cons (ae_tup (aa_cons ae_str (aa_cons (ae_var 6) aa_nil))) aa_nil))) (ae_one (ae_is (ag_inX c IN_Meter (by decide) (ae_var 6) (ae_var 1)) ae_bl))))))))))))
theorem d_law {z : Ad} (T : Txt K mg z) (C__law_added : Cal false P w K mg base "_law_added" 3 4 [] (fun ds _ => ds) (S__law_added z)) (C__law_draw : Cal false P w K mg base "_law_draw" 1 2 [] (fun ds _ => ds) (FM.S__law_draw z)) (C__law_odd : Cal false P w K mg base "_law_odd" 2 1 [] (fun ds _ => ds) (S__law_odd z)) (C__law_pen : Cal false P w K mg base "_law_pen" 1 1 [] (fun ds _ => ds) (FM.S__law_pen z)) (C__law_reading : Cal false P w K mg base "_law_reading" 3 2 [] (fun ds _ => ds) (FM.S__law_reading z)) (C__law_source : Cal false P w K mg base "_law_source" 2 1 [] (fun ds _ => ds) (FM.S__law_source z)) (C__law_stands : Cal true P w K mg base "_law_stands" 7 5 [] (fun ds _ => ds) (S__law_stands z)) (MM_Meter_0_ : MakMC P w K mg base "Meter" z.Meter 4 0 [] (pickE [.inl 0, .inr .non]) (FM.S_Meter___init__ z)) (MM_Meter_0_most : MakMC P w K mg base "Meter" z.Meter 4 0 ["most"] (pickD [0, 1]) (FM.S_Meter___init__ z)) (R_Meter_add : MetC P w K mg base z.Meter "add" 5 (FM.S_Meter_add z)) (RK_Meter_add_length_capacity : MetKC P w K mg base z.Meter "add" 5 ["length", "capacity"] (pickD [0, 2, 1]) (FM.S_Meter_add z)) (R_Meter_readings : PrpC P w K mg base z.Meter "readings" 1 (FM.S_Meter_readings z)) (R_Meter_steps : PrpC P w K mg base z.Meter "steps" 1 (FM.S_Meter_steps z)) (H__law_heard : HCal P w K mg base false "_law_heard" 1 (FM.S__law_heard z)) {cc : Addr} (TB : LamX.TabB base mg cc z.t0) {f : Addr} (A : Around) (outer : List PySem.Env) (s : Shared) (H : Hp) (E : XK) (c : Cg true (cxOf (L2.CX P w) P w K mg base N_law "law" (defScope s_law) f (.ref cc) A outer s H E) E 7) :
    ASs (cxOf (L2.CX P w) P w K mg base N_law "law" (defScope s_law) f (.ref cc) A outer s H E) E (defBody s_law) (w_law z) :=
  (ass_cons (as_set 1 c.nd (ae_call c C__law_pen (by decide) (by decide) (aa_cons (ae_var 0) aa_nil)))
    (ass_cons (as_for c (ai_rng1 T.z_range (aa_cons ae_int aa_nil)) (ag_name 2 c.nd) (ass_cons (as_set 3 c.nd (ae_ix (ae_lst false (aa_cons ae_non (aa_cons ae_non (aa_cons (ae_call c C__law_draw (by decide) (by decide) (aa_cons (ae_var 1) (aa_cons ae_int aa_nil))) (aa_cons (ae_pow ae_int ae_int) aa_nil))))) (ae_call c C__law_draw (by decide) (by decide) (aa_cons (ae_var 1) (aa_cons ae_int aa_nil)))))
    (ass_cons (as_set 4 c.nd (ae_if (at_is (ae_var 3) ae_non) (ag_makeM0 true c MM_Meter_0_ (by decide) ak_nil) (ag_makeM0 true c MM_Meter_0_most (by decide) (ak_cons (ae_var 3) ak_nil))))
    (ass_cons (as_par3 5 6 7 c (by decide) (by decide) (by decide) (aa_cons (ae_lst true aa_nil) (aa_cons ae_int (aa_cons (ae_call c C__law_source (by decide) (by decide) (aa_cons (ae_var 1) aa_nil)) aa_nil))))
    (ass_one (as_for c (ai_rng1 T.z_range (aa_cons (ae_ix (ae_lst false (aa_cons ae_int (aa_cons ae_int (aa_cons ae_int aa_nil)))) (ae_var 2)) aa_nil)) (ag_name 8 c.nd) (ass_cons (as_asg (ae_call c C__law_reading (by decide) (by decide) (aa_cons (ae_var 1) (aa_cons (ae_var 7) aa_nil))) (ag_tup c.calm (ags_cons (ag_name 9 c.nd) (ags_cons (ag_name 10 c.nd) ags_nil))))
    (ass_cons (as_if (at_eq c (ae_call c C__law_draw (by decide) (by decide) (aa_cons (ae_var 1) (aa_cons ae_int aa_nil))) ae_int) (ass_one (as_set 9 c.nd (ae_ix (ae_lst false (aa_cons (ae_call c C__law_odd (by decide) (by decide) (aa_cons (ae_var 1) aa_nil)) (aa_cons ae_int (aa_cons (ae_add false (ae_pow ae_int ae_int) ae_int) (aa_cons (ae_pow ae_int ae_int) aa_nil))))) (ae_call c C__law_draw (by decide) (by decide) (aa_cons (ae_var 1) (aa_cons ae_int aa_nil)))))) ass_nil)
    (ass_cons (as_if (at_eq c (ae_call c C__law_draw (by decide) (by decide) (aa_cons (ae_var 1) (aa_cons ae_int aa_nil))) ae_int) (ass_one (as_set 10 c.nd (ae_ix (ae_lst false (aa_cons (ae_call c C__law_odd (by decide) (by decide) (aa_cons (ae_var 1) aa_nil)) (aa_cons (ae_add false (ae_pow ae_int ae_int) ae_int) (aa_cons (ae_pow ae_int ae_int) (aa_cons ae_int aa_nil))))) (ae_call c C__law_draw (by decide) (by decide) (aa_cons (ae_var 1) (aa_cons ae_int aa_nil)))))) ass_nil)
    (ass_cons (as_set 11 c.nd (ae_call c C__law_added (by decide) (by decide) (aa_cons (ae_var 5) (aa_cons (ae_var 3) (aa_cons (ae_var 9) (aa_cons (ae_var 10) aa_nil))))))
    (ass_cons (as_set 12 c.nd (ae_heard c H__law_heard (by decide) TB rfl (by decide) (fun A outer s H E' f c' c => (ag_met c R_Meter_add (by decide) (ae_var 4) (aa_cons (ae_var 9) (aa_cons (ae_var 10) aa_nil)))) (LamX.lamS_by (show LamX.lamSB (defScope s_law) _ = true from by decide +kernel)) (by decide)))
    (ass_cons (as_set 6 c.nd (ae_add false (ae_var 6) (ae_bt dInt_ok T.z_int bb_int (aa_cons (ae_eqM c (ae_var 11) (ae_lst false (aa_cons ae_non aa_nil))) aa_nil))))
    (ass_one (as_if (AW.at (aw_or (at_ne c (ae_b (dReprQ_ok (c.gd rfl) c.room.units) T.z_repr bb_repr (aa_cons (ae_var 12) aa_nil)) (ae_b (dReprQ_ok (c.gd rfl) c.room.units) T.z_repr bb_repr (aa_cons (ae_var 11) aa_nil))) (aw_or1 (at_not (at_val (ae_call c C__law_stands (by decide) (by decide) (aa_cons (ae_var 1) (aa_cons (ae_var 4) (aa_cons (ae_var 5) (aa_cons (ae_var 6) (aa_cons (ae_var 3) aa_nil))))))))))) (ass_one (as_ret ae_bl)) ass_nil))))))))))))))
    (ass_cons (as_set 4 c.nd (ag_makeM0 true c MM_Meter_0_ (by decide) ak_nil))
    (ass_cons (as_set 12 c.nd (ae_lst false (aa_cons (ag_met c R_Meter_add (by decide) (ae_var 4) (aa_cons ae_int (aa_cons ae_int aa_nil))) (aa_cons (ag_metK c RK_Meter_add_length_capacity (by decide) (ae_var 4) (ak_cons ae_int (ak_cons ae_int ak_nil))) (aa_cons (ae_heard c H__law_heard (by decide) TB rfl (by decide) (fun A outer s H E' f c' c => (ag_met c R_Meter_add (by decide) (ae_var 4) (aa_cons ae_int (aa_cons ae_int aa_nil)))) (LamX.lamS_by (show LamX.lamSB (defScope s_law) _ = true from by decide +kernel)) (by decide)) (aa_cons (ag_met c R_Meter_add (by decide) (ae_var 4) (aa_cons ae_int (aa_cons ae_int aa_nil))) aa_nil))))))
    (ass_one (as_ret (ae_and (ae_eq c (ae_var 12) (ae_lst false (aa_cons ae_non (aa_cons ae_non (aa_cons (ae_tup (aa_cons ae_str (aa_cons ae_int (aa_cons ae_int aa_nil)))) (aa_cons ae_non aa_nil)))))) (ae_and (ae_eq c (ag_prop c R_Meter_readings (by decide) (ae_var 4)) (ae_tup (aa_cons (ae_tup (aa_cons ae_int (aa_cons ae_int aa_nil))) (aa_cons (ae_tup (aa_cons ae_int (aa_cons ae_int aa_nil))) aa_nil)))) (ae_one (ae_eq c (ag_prop c R_Meter_steps (by decide) (ae_var 4)) ae_int))))))))))
end
end K71
namespace K71
open PySem PySem.Spec L2 C8 DL PK FM PK PyProof.Rows
/-! ### what the top has written, and the law's head (printed by gen4.py) -/
theorem all_mk {l : PySem.W.OpenLaw} {w : World} {K : PySem.W.Frag} {h : Heap} {mg : Str → Option Value} {fa : Addr} (X : K.In h) (G : h.Ns mainGlobals mg) (hfa : mg "law" = some (.ref fa))
    {f0 : Addr} {od0 an0 : Option Addr} {sl0 : Array (Option Value)} {oc0 kV0 dc0 pm0 cd0 ct0 : Value}
    {f1 : Addr} {od1 an1 : Option Addr} {sl1 : Array (Option Value)} {oc1 kV1 dc1 pm1 cd1 ct1 : Value}
    {f2 : Addr} {od2 an2 : Option Addr} {sl2 : Array (Option Value)} {oc2 kV2 dc2 pm2 cd2 ct2 : Value}
    {f3 : Addr} {od3 an3 : Option Addr} {sl3 : Array (Option Value)} {oc3 kV3 dc3 pm3 cd3 ct3 : Value}
    {f4 : Addr} {od4 an4 : Option Addr} {sl4 : Array (Option Value)} {oc4 kV4 dc4 pm4 cd4 ct4 : Value}
    {f5 : Addr} {od5 an5 : Option Addr} {sl5 : Array (Option Value)} {oc5 kV5 dc5 pm5 cd5 ct5 : Value}
    {f6 : Addr} {od6 an6 : Option Addr} {sl6 : Array (Option Value)} {oc6 kV6 dc6 pm6 cd6 ct6 : Value}
    {f7 : Addr} {od7 an7 : Option Addr} {sl7 : Array (Option Value)} {oc7 kV7 dc7 pm7 cd7 ct7 : Value}
    {f8 kD8 : Addr} {od8 an8 : Option Addr} {sl8 : Array (Option Value)} {oc8 dc8 pm8 cd8 ct8 : Value}
    {f9 : Addr} {od9 an9 : Option Addr} {sl9 : Array (Option Value)} {oc9 kV9 dc9 pm9 cd9 ct9 : Value}
    {f10 : Addr} {od10 an10 : Option Addr} {sl10 : Array (Option Value)} {oc10 kV10 dc10 pm10 cd10 ct10 : Value}
    {f11 : Addr} {od11 an11 : Option Addr} {sl11 : Array (Option Value)} {oc11 kV11 dc11 pm11 cd11 ct11 : Value}
    {f12 : Addr} {od12 an12 : Option Addr} {sl12 : Array (Option Value)} {oc12 kV12 dc12 pm12 cd12 ct12 : Value}
    {f13 : Addr} {od13 an13 : Option Addr} {sl13 : Array (Option Value)} {oc13 kV13 dc13 pm13 cd13 ct13 : Value}
    {f14 : Addr} {od14 an14 : Option Addr} {sl14 : Array (Option Value)} {oc14 kV14 dc14 pm14 cd14 ct14 : Value}
    {f15 : Addr} {od15 an15 : Option Addr} {sl15 : Array (Option Value)} {oc15 kV15 dc15 pm15 cd15 ct15 : Value}
    {f16 : Addr} {od16 an16 : Option Addr} {sl16 : Array (Option Value)} {oc16 kV16 dc16 pm16 cd16 ct16 : Value}
    {f17 : Addr} {od17 an17 : Option Addr} {sl17 : Array (Option Value)} {oc17 kV17 dc17 pm17 cd17 ct17 : Value}
    {f18 : Addr} {od18 an18 : Option Addr} {sl18 : Array (Option Value)} {oc18 kV18 dc18 pm18 cd18 ct18 : Value}
    {f19 : Addr} {od19 an19 : Option Addr} {sl19 : Array (Option Value)} {oc19 kV19 dc19 pm19 cd19 ct19 : Value}
    {f20 : Addr} {od20 an20 : Option Addr} {sl20 : Array (Option Value)} {oc20 kV20 dc20 pm20 cd20 ct20 : Value}
    {f21 : Addr} {od21 an21 : Option Addr} {sl21 : Array (Option Value)} {oc21 kV21 dc21 pm21 cd21 ct21 : Value}
    {f22 : Addr} {od22 an22 : Option Addr} {sl22 : Array (Option Value)} {oc22 kV22 dc22 pm22 cd22 ct22 : Value}
    {f23 : Addr} {od23 an23 : Option Addr} {sl23 : Array (Option Value)} {oc23 kV23 dc23 pm23 cd23 ct23 : Value}
    {f24 : Addr} {od24 an24 : Option Addr} {sl24 : Array (Option Value)} {oc24 kV24 dc24 pm24 cd24 ct24 : Value}
    {f25 : Addr} {od25 an25 : Option Addr} {sl25 : Array (Option Value)} {oc25 kV25 dc25 pm25 cd25 ct25 : Value}
    {f26 : Addr} {od26 an26 : Option Addr} {sl26 : Array (Option Value)} {oc26 kV26 dc26 pm26 cd26 ct26 : Value}
    {f27 : Addr} {od27 an27 : Option Addr} {sl27 : Array (Option Value)} {oc27 kV27 dc27 pm27 cd27 ct27 : Value}
    {f28 : Addr} {od28 an28 : Option Addr} {sl28 : Array (Option Value)} {oc28 kV28 dc28 pm28 cd28 ct28 : Value}
    {f29 : Addr} {od29 an29 : Option Addr} {sl29 : Array (Option Value)} {oc29 kV29 dc29 pm29 cd29 ct29 : Value}
    {f30 : Addr} {od30 an30 : Option Addr} {sl30 : Array (Option Value)} {oc30 kV30 dc30 pm30 ct30 : Value}
    {f31 : Addr} {od31 an31 : Option Addr} {sl31 : Array (Option Value)} {oc31 kV31 dc31 pm31 ct31 : Value}
    {f32 : Addr} {od32 an32 : Option Addr} {sl32 : Array (Option Value)} {oc32 kV32 dc32 pm32 cd32 ct32 : Value}
    {f33 : Addr} {od33 an33 : Option Addr} {sl33 : Array (Option Value)} {oc33 kV33 dc33 pm33 cd33 ct33 : Value}
    {f34 : Addr} {od34 an34 : Option Addr} {sl34 : Array (Option Value)} {oc34 kV34 dc34 pm34 cd34 ct34 : Value}
    {f35 : Addr} {od35 an35 : Option Addr} {sl35 : Array (Option Value)} {oc35 kV35 dc35 pm35 cd35 ct35 : Value}
    {f36 : Addr} {od36 an36 : Option Addr} {sl36 : Array (Option Value)} {oc36 kV36 dc36 pm36 cd36 ct36 : Value}
    {A_Meter : Addr}
    {p9 : Addr} {rs9 : List Value}
    {p10 : Addr} {rs10 : List Value}
    {p11 : Addr} {rs11 : List Value}
    {A_AbsentError A_Contradiction A_DifferentModes A_EchoError A_Finished A_InvalidAccount A_InvalidBound A_InvalidCapacity A_InvalidMode A_InvalidNumber A_InvalidProgram A_InvalidReading A_InvalidRow A_InvalidTable A_InvalidText A_Lossy A_NoName A_NoPlace A_NoPoint A_NoReading A_NothingToUndo A_SizeError A_UnknownCommand : Addr}
    {xnm0 xq0 : Str} {xN0 : Addr} {xbs0 xbm0 xsb0 : List Value} {xsn0 : List Str} {xab0 : Bool} {xco0 : Option Bool} {xdd0 : Option Addr} {xk00 xk10 xk20 xk30 xk50 : Option Value}
    {xnm1 xq1 : Str} {xN1 : Addr} {xbs1 xbm1 xsb1 : List Value} {xsn1 : List Str} {xab1 : Bool} {xco1 : Option Bool} {xdd1 : Option Addr} {xk01 xk11 xk21 xk31 xk51 : Option Value}
    {xnm2 xq2 : Str} {xN2 : Addr} {xbs2 xbm2 xsb2 : List Value} {xsn2 : List Str} {xab2 : Bool} {xco2 : Option Bool} {xdd2 : Option Addr} {xk02 xk12 xk22 xk32 xk52 : Option Value}
    {xnm3 xq3 : Str} {xN3 : Addr} {xbs3 xbm3 xsb3 : List Value} {xsn3 : List Str} {xab3 : Bool} {xco3 : Option Bool} {xdd3 : Option Addr} {xk03 xk13 xk23 xk33 xk53 : Option Value}
    {xnm4 xq4 : Str} {xN4 : Addr} {xbs4 xbm4 xsb4 : List Value} {xsn4 : List Str} {xab4 : Bool} {xco4 : Option Bool} {xdd4 : Option Addr} {xk04 xk14 xk24 xk34 xk54 : Option Value}
    {cc0 tp0 : Addr} {qc0 : Value} {qd0 : Option Addr} {qv0 : Array Value} {qs0 : Array (Option Value)}
    {cc1 tp1 : Addr} {qc1 : Value} {qd1 : Option Addr} {qv1 : Array Value} {qs1 : Array (Option Value)}
    (aC0 : PySem.W.nsIn K mainGlobals "Meter" = some (some (.ref A_Meter))) (pg0 : PySem.W.plainGet K A_Meter Str.empty = true) (hd0 : PySem.W.hasDictIn K A_Meter = true) (po0 : PySem.W.plainOver K A_Meter = true) (sa0 : PySem.W.findIn K (.ref A_Meter) "__setattr__" = some (some (.builtin "object.__setattr__"))) (mk0 : PySem.W.makesIn K A_Meter = true) (kc0 : PySem.W.keepIn K (.ref A_Meter) = true) (sf0 : PySem.W.selfFirst K A_Meter = true)
    (nf0 : PySem.W.findIn K (.ref A_Meter) "earlier" = some none) (nf1 : PySem.W.findIn K (.ref A_Meter) "edge" = some none) (nf2 : PySem.W.findIn K (.ref A_Meter) "noted" = some none)
    (bo0 : PySem.W.findIn K (.ref A_Meter) "__bool__" = some none)
    (xa0 : PySem.W.nsIn K mainGlobals "AbsentError" = some (some (.ref A_AbsentError)))
    (xa1 : PySem.W.nsIn K mainGlobals "Contradiction" = some (some (.ref A_Contradiction)))
    (xa2 : PySem.W.nsIn K mainGlobals "DifferentModes" = some (some (.ref A_DifferentModes)))
    (xa3 : PySem.W.nsIn K mainGlobals "EchoError" = some (some (.ref A_EchoError)))
    (xa4 : PySem.W.nsIn K mainGlobals "Finished" = some (some (.ref A_Finished)))
    (xa5 : PySem.W.nsIn K mainGlobals "InvalidAccount" = some (some (.ref A_InvalidAccount)))
    (xa6 : PySem.W.nsIn K mainGlobals "InvalidBound" = some (some (.ref A_InvalidBound)))
    (xa7 : PySem.W.nsIn K mainGlobals "InvalidCapacity" = some (some (.ref A_InvalidCapacity)))
    (xa8 : PySem.W.nsIn K mainGlobals "InvalidMode" = some (some (.ref A_InvalidMode)))
    (xa9 : PySem.W.nsIn K mainGlobals "InvalidNumber" = some (some (.ref A_InvalidNumber)))
    (xa10 : PySem.W.nsIn K mainGlobals "InvalidProgram" = some (some (.ref A_InvalidProgram)))
    (xa11 : PySem.W.nsIn K mainGlobals "InvalidReading" = some (some (.ref A_InvalidReading)))
    (xa12 : PySem.W.nsIn K mainGlobals "InvalidRow" = some (some (.ref A_InvalidRow)))
    (xa13 : PySem.W.nsIn K mainGlobals "InvalidTable" = some (some (.ref A_InvalidTable)))
    (xa14 : PySem.W.nsIn K mainGlobals "InvalidText" = some (some (.ref A_InvalidText)))
    (xa15 : PySem.W.nsIn K mainGlobals "Lossy" = some (some (.ref A_Lossy)))
    (xa16 : PySem.W.nsIn K mainGlobals "NoName" = some (some (.ref A_NoName)))
    (xa17 : PySem.W.nsIn K mainGlobals "NoPlace" = some (some (.ref A_NoPlace)))
    (xa18 : PySem.W.nsIn K mainGlobals "NoPoint" = some (some (.ref A_NoPoint)))
    (xa19 : PySem.W.nsIn K mainGlobals "NoReading" = some (some (.ref A_NoReading)))
    (xa20 : PySem.W.nsIn K mainGlobals "NothingToUndo" = some (some (.ref A_NothingToUndo)))
    (xa21 : PySem.W.nsIn K mainGlobals "SizeError" = some (some (.ref A_SizeError)))
    (xa22 : PySem.W.nsIn K mainGlobals "UnknownCommand" = some (some (.ref A_UnknownCommand)))
    (xl0 : K.lookup A_Contradiction = some (excClassObj xnm0 xq0 A_Contradiction xN0 xbs0 xbm0 true xsn0 xsb0 xab0 xco0 xdd0 xk00 xk10 xk20 xk30 xk50 "ValueError.__new__")) (rx0 : PySem.W.excTail [.type "ValueError", .type "Exception", .type "BaseException", .type "object"] xbm0 = true) (xs0 : PySem.W.findIn K (.ref A_Contradiction) "__setattr__" = some (some (.builtin "object.__setattr__"))) (xi0 : PySem.W.findIn K (.ref A_Contradiction) "__init__" = some (some (.ref f32))) (xj0 : PySem.W.typeIn K (.ref f32) = some (.type "function"))
    (xn0_0 : PySem.W.findIn K (.ref A_Contradiction) "first" = some none) (xn0_1 : PySem.W.findIn K (.ref A_Contradiction) "second" = some none)
    (xl1 : K.lookup A_InvalidBound = some (excClassObj xnm1 xq1 A_InvalidBound xN1 xbs1 xbm1 true xsn1 xsb1 xab1 xco1 xdd1 xk01 xk11 xk21 xk31 xk51 "ValueError.__new__")) (rx1 : PySem.W.excTail [.type "ValueError", .type "Exception", .type "BaseException", .type "object"] xbm1 = true) (xs1 : PySem.W.findIn K (.ref A_InvalidBound) "__setattr__" = some (some (.builtin "object.__setattr__"))) (xi1 : PySem.W.findIn K (.ref A_InvalidBound) "__init__" = some (some (.ref f33))) (xj1 : PySem.W.typeIn K (.ref f33) = some (.type "function"))
    (xn1_0 : PySem.W.findIn K (.ref A_InvalidBound) "value" = some none)
    (xl2 : K.lookup A_InvalidCapacity = some (excClassObj xnm2 xq2 A_InvalidCapacity xN2 xbs2 xbm2 true xsn2 xsb2 xab2 xco2 xdd2 xk02 xk12 xk22 xk32 xk52 "ValueError.__new__")) (rx2 : PySem.W.excTail [.type "ValueError", .type "Exception", .type "BaseException", .type "object"] xbm2 = true) (xs2 : PySem.W.findIn K (.ref A_InvalidCapacity) "__setattr__" = some (some (.builtin "object.__setattr__"))) (xi2 : PySem.W.findIn K (.ref A_InvalidCapacity) "__init__" = some (some (.ref f34))) (xj2 : PySem.W.typeIn K (.ref f34) = some (.type "function"))
    (xn2_0 : PySem.W.findIn K (.ref A_InvalidCapacity) "value" = some none)
    (xl3 : K.lookup A_InvalidReading = some (excClassObj xnm3 xq3 A_InvalidReading xN3 xbs3 xbm3 true xsn3 xsb3 xab3 xco3 xdd3 xk03 xk13 xk23 xk33 xk53 "ValueError.__new__")) (rx3 : PySem.W.excTail [.type "ValueError", .type "Exception", .type "BaseException", .type "object"] xbm3 = true) (xs3 : PySem.W.findIn K (.ref A_InvalidReading) "__setattr__" = some (some (.builtin "object.__setattr__"))) (xi3 : PySem.W.findIn K (.ref A_InvalidReading) "__init__" = some (some (.ref f35))) (xj3 : PySem.W.typeIn K (.ref f35) = some (.type "function"))
    (xn3_0 : PySem.W.findIn K (.ref A_InvalidReading) "value" = some none)
    (xl4 : K.lookup A_NoReading = some (excClassObj xnm4 xq4 A_NoReading xN4 xbs4 xbm4 true xsn4 xsb4 xab4 xco4 xdd4 xk04 xk14 xk24 xk34 xk54 "LookupError.__new__")) (rx4 : PySem.W.excTail [.type "LookupError", .type "Exception", .type "BaseException", .type "object"] xbm4 = true) (xs4 : PySem.W.findIn K (.ref A_NoReading) "__setattr__" = some (some (.builtin "object.__setattr__"))) (xi4 : PySem.W.findIn K (.ref A_NoReading) "__init__" = some (some (.ref f36))) (xj4 : PySem.W.typeIn K (.ref f36) = some (.type "function"))
    (xn4_0 : PySem.W.findIn K (.ref A_NoReading) "asked" = some none)
    (xb0 : PySem.W.subIn K (.ref A_Contradiction) (.type "BaseException") = some true)
    (xb1 : PySem.W.subIn K (.ref A_InvalidBound) (.type "BaseException") = some true)
    (xb2 : PySem.W.subIn K (.ref A_InvalidCapacity) (.type "BaseException") = some true)
    (xb3 : PySem.W.subIn K (.ref A_InvalidReading) (.type "BaseException") = some true)
    (xb4 : PySem.W.subIn K (.ref A_NoReading) (.type "BaseException") = some true)
    (xb5 : PySem.W.subIn K (.ref A_NothingToUndo) (.type "BaseException") = some true)
    (xy0 : PySem.W.typeIn K (.ref A_Contradiction) = some (.type "type")) (xk0 : PySem.W.keepIn K (.ref A_Contradiction) = true)
    (xy1 : PySem.W.typeIn K (.ref A_InvalidBound) = some (.type "type")) (xk1 : PySem.W.keepIn K (.ref A_InvalidBound) = true)
    (xy2 : PySem.W.typeIn K (.ref A_InvalidCapacity) = some (.type "type")) (xk2 : PySem.W.keepIn K (.ref A_InvalidCapacity) = true)
    (xy3 : PySem.W.typeIn K (.ref A_InvalidReading) = some (.type "type")) (xk3 : PySem.W.keepIn K (.ref A_InvalidReading) = true)
    (xy4 : PySem.W.typeIn K (.ref A_NoReading) = some (.type "type")) (xk4 : PySem.W.keepIn K (.ref A_NoReading) = true)
    (vn : PySem.W.specialIn K (.builtin "object.__class__") "__get__" = some (some (.builtin "getset_descriptor.__get__"))) (vt : PySem.W.takesIn K (.builtin "object.__class__") = some true)
    (wb0 : PySem.W.subIn K (.ref A_EchoError) (.type "BaseException") = some true) (wd0 : PySem.W.hasDictIn K A_EchoError = true) (wy0 : PySem.W.typeIn K (.ref A_EchoError) = some (.type "type"))
    (wb1 : PySem.W.subIn K (.ref A_SizeError) (.type "BaseException") = some true) (wd1 : PySem.W.hasDictIn K A_SizeError = true) (wy1 : PySem.W.typeIn K (.ref A_SizeError) = some (.type "type"))
    (wb2 : PySem.W.subIn K (.ref A_AbsentError) (.type "BaseException") = some true) (wd2 : PySem.W.hasDictIn K A_AbsentError = true) (wy2 : PySem.W.typeIn K (.ref A_AbsentError) = some (.type "type"))
    (va0 : PySem.W.findIn K (.ref A_InvalidCapacity) "__getattribute__" = some (some (.builtin "BaseException.__getattribute__"))) (vg0 : PySem.W.findIn K (.ref A_InvalidCapacity) "__getattr__" = some none) (vd0 : PySem.W.hasDictIn K A_InvalidCapacity = true) (vc0 : PySem.W.findIn K (.ref A_InvalidCapacity) "__class__" = some (some (.builtin "object.__class__"))) (vm0 : PySem.W.mroIn K A_InvalidCapacity (.type "object") = some true)
    (ve0_0 : PySem.W.subIn K (.ref A_InvalidCapacity) (.ref A_EchoError) = some true) (ve0_1 : PySem.W.subIn K (.ref A_InvalidCapacity) (.ref A_SizeError) = some false) (ve0_2 : PySem.W.subIn K (.ref A_InvalidCapacity) (.ref A_AbsentError) = some false)
    (vk0_0 : PySem.W.kitOne K (.ref A_InvalidCapacity) (.ref A_Contradiction) = some false) (vk0_1 : PySem.W.kitOne K (.ref A_InvalidCapacity) (.ref A_DifferentModes) = some false) (vk0_2 : PySem.W.kitOne K (.ref A_InvalidCapacity) (.ref A_Finished) = some false) (vk0_3 : PySem.W.kitOne K (.ref A_InvalidCapacity) (.ref A_InvalidAccount) = some false) (vk0_4 : PySem.W.kitOne K (.ref A_InvalidCapacity) (.ref A_InvalidBound) = some false) (vk0_5 : PySem.W.kitOne K (.ref A_InvalidCapacity) (.ref A_InvalidCapacity) = some true) (vk0_6 : PySem.W.kitOne K (.ref A_InvalidCapacity) (.ref A_InvalidMode) = some false) (vk0_7 : PySem.W.kitOne K (.ref A_InvalidCapacity) (.ref A_InvalidNumber) = some false) (vk0_8 : PySem.W.kitOne K (.ref A_InvalidCapacity) (.ref A_InvalidProgram) = some false) (vk0_9 : PySem.W.kitOne K (.ref A_InvalidCapacity) (.ref A_InvalidReading) = some false) (vk0_10 : PySem.W.kitOne K (.ref A_InvalidCapacity) (.ref A_InvalidRow) = some false) (vk0_11 : PySem.W.kitOne K (.ref A_InvalidCapacity) (.ref A_InvalidTable) = some false) (vk0_12 : PySem.W.kitOne K (.ref A_InvalidCapacity) (.ref A_InvalidText) = some false) (vk0_13 : PySem.W.kitOne K (.ref A_InvalidCapacity) (.type "LookupError") = some false) (vk0_14 : PySem.W.kitOne K (.ref A_InvalidCapacity) (.ref A_Lossy) = some false) (vk0_15 : PySem.W.kitOne K (.ref A_InvalidCapacity) (.ref A_NoName) = some false) (vk0_16 : PySem.W.kitOne K (.ref A_InvalidCapacity) (.ref A_NoPlace) = some false) (vk0_17 : PySem.W.kitOne K (.ref A_InvalidCapacity) (.ref A_NoPoint) = some false) (vk0_18 : PySem.W.kitOne K (.ref A_InvalidCapacity) (.ref A_NoReading) = some false) (vk0_19 : PySem.W.kitOne K (.ref A_InvalidCapacity) (.ref A_NothingToUndo) = some false) (vk0_20 : PySem.W.kitOne K (.ref A_InvalidCapacity) (.ref A_SizeError) = some false) (vk0_21 : PySem.W.kitOne K (.ref A_InvalidCapacity) (.ref A_UnknownCommand) = some false) (vk0_22 : PySem.W.kitOne K (.ref A_InvalidCapacity) (.type "ValueError") = some true)
    (vf0_0 : PySem.W.findIn K (.ref A_InvalidCapacity) "value" = some none)
    (va1 : PySem.W.findIn K (.ref A_InvalidReading) "__getattribute__" = some (some (.builtin "BaseException.__getattribute__"))) (vg1 : PySem.W.findIn K (.ref A_InvalidReading) "__getattr__" = some none) (vd1 : PySem.W.hasDictIn K A_InvalidReading = true) (vc1 : PySem.W.findIn K (.ref A_InvalidReading) "__class__" = some (some (.builtin "object.__class__"))) (vm1 : PySem.W.mroIn K A_InvalidReading (.type "object") = some true)
    (ve1_0 : PySem.W.subIn K (.ref A_InvalidReading) (.ref A_EchoError) = some true) (ve1_1 : PySem.W.subIn K (.ref A_InvalidReading) (.ref A_SizeError) = some false) (ve1_2 : PySem.W.subIn K (.ref A_InvalidReading) (.ref A_AbsentError) = some false)
    (vk1_0 : PySem.W.kitOne K (.ref A_InvalidReading) (.ref A_Contradiction) = some false) (vk1_1 : PySem.W.kitOne K (.ref A_InvalidReading) (.ref A_DifferentModes) = some false) (vk1_2 : PySem.W.kitOne K (.ref A_InvalidReading) (.ref A_Finished) = some false) (vk1_3 : PySem.W.kitOne K (.ref A_InvalidReading) (.ref A_InvalidAccount) = some false) (vk1_4 : PySem.W.kitOne K (.ref A_InvalidReading) (.ref A_InvalidBound) = some false) (vk1_5 : PySem.W.kitOne K (.ref A_InvalidReading) (.ref A_InvalidCapacity) = some false) (vk1_6 : PySem.W.kitOne K (.ref A_InvalidReading) (.ref A_InvalidMode) = some false) (vk1_7 : PySem.W.kitOne K (.ref A_InvalidReading) (.ref A_InvalidNumber) = some false) (vk1_8 : PySem.W.kitOne K (.ref A_InvalidReading) (.ref A_InvalidProgram) = some false) (vk1_9 : PySem.W.kitOne K (.ref A_InvalidReading) (.ref A_InvalidReading) = some true) (vk1_10 : PySem.W.kitOne K (.ref A_InvalidReading) (.ref A_InvalidRow) = some false) (vk1_11 : PySem.W.kitOne K (.ref A_InvalidReading) (.ref A_InvalidTable) = some false) (vk1_12 : PySem.W.kitOne K (.ref A_InvalidReading) (.ref A_InvalidText) = some false) (vk1_13 : PySem.W.kitOne K (.ref A_InvalidReading) (.type "LookupError") = some false) (vk1_14 : PySem.W.kitOne K (.ref A_InvalidReading) (.ref A_Lossy) = some false) (vk1_15 : PySem.W.kitOne K (.ref A_InvalidReading) (.ref A_NoName) = some false) (vk1_16 : PySem.W.kitOne K (.ref A_InvalidReading) (.ref A_NoPlace) = some false) (vk1_17 : PySem.W.kitOne K (.ref A_InvalidReading) (.ref A_NoPoint) = some false) (vk1_18 : PySem.W.kitOne K (.ref A_InvalidReading) (.ref A_NoReading) = some false) (vk1_19 : PySem.W.kitOne K (.ref A_InvalidReading) (.ref A_NothingToUndo) = some false) (vk1_20 : PySem.W.kitOne K (.ref A_InvalidReading) (.ref A_SizeError) = some false) (vk1_21 : PySem.W.kitOne K (.ref A_InvalidReading) (.ref A_UnknownCommand) = some false) (vk1_22 : PySem.W.kitOne K (.ref A_InvalidReading) (.type "ValueError") = some true)
    (vf1_0 : PySem.W.findIn K (.ref A_InvalidReading) "value" = some none)
    (va2 : PySem.W.findIn K (.ref A_InvalidBound) "__getattribute__" = some (some (.builtin "BaseException.__getattribute__"))) (vg2 : PySem.W.findIn K (.ref A_InvalidBound) "__getattr__" = some none) (vd2 : PySem.W.hasDictIn K A_InvalidBound = true) (vc2 : PySem.W.findIn K (.ref A_InvalidBound) "__class__" = some (some (.builtin "object.__class__"))) (vm2 : PySem.W.mroIn K A_InvalidBound (.type "object") = some true)
    (ve2_0 : PySem.W.subIn K (.ref A_InvalidBound) (.ref A_EchoError) = some true) (ve2_1 : PySem.W.subIn K (.ref A_InvalidBound) (.ref A_SizeError) = some false) (ve2_2 : PySem.W.subIn K (.ref A_InvalidBound) (.ref A_AbsentError) = some false)
    (vk2_0 : PySem.W.kitOne K (.ref A_InvalidBound) (.ref A_Contradiction) = some false) (vk2_1 : PySem.W.kitOne K (.ref A_InvalidBound) (.ref A_DifferentModes) = some false) (vk2_2 : PySem.W.kitOne K (.ref A_InvalidBound) (.ref A_Finished) = some false) (vk2_3 : PySem.W.kitOne K (.ref A_InvalidBound) (.ref A_InvalidAccount) = some false) (vk2_4 : PySem.W.kitOne K (.ref A_InvalidBound) (.ref A_InvalidBound) = some true) (vk2_5 : PySem.W.kitOne K (.ref A_InvalidBound) (.ref A_InvalidCapacity) = some false) (vk2_6 : PySem.W.kitOne K (.ref A_InvalidBound) (.ref A_InvalidMode) = some false) (vk2_7 : PySem.W.kitOne K (.ref A_InvalidBound) (.ref A_InvalidNumber) = some false) (vk2_8 : PySem.W.kitOne K (.ref A_InvalidBound) (.ref A_InvalidProgram) = some false) (vk2_9 : PySem.W.kitOne K (.ref A_InvalidBound) (.ref A_InvalidReading) = some false) (vk2_10 : PySem.W.kitOne K (.ref A_InvalidBound) (.ref A_InvalidRow) = some false) (vk2_11 : PySem.W.kitOne K (.ref A_InvalidBound) (.ref A_InvalidTable) = some false) (vk2_12 : PySem.W.kitOne K (.ref A_InvalidBound) (.ref A_InvalidText) = some false) (vk2_13 : PySem.W.kitOne K (.ref A_InvalidBound) (.type "LookupError") = some false) (vk2_14 : PySem.W.kitOne K (.ref A_InvalidBound) (.ref A_Lossy) = some false) (vk2_15 : PySem.W.kitOne K (.ref A_InvalidBound) (.ref A_NoName) = some false) (vk2_16 : PySem.W.kitOne K (.ref A_InvalidBound) (.ref A_NoPlace) = some false) (vk2_17 : PySem.W.kitOne K (.ref A_InvalidBound) (.ref A_NoPoint) = some false) (vk2_18 : PySem.W.kitOne K (.ref A_InvalidBound) (.ref A_NoReading) = some false) (vk2_19 : PySem.W.kitOne K (.ref A_InvalidBound) (.ref A_NothingToUndo) = some false) (vk2_20 : PySem.W.kitOne K (.ref A_InvalidBound) (.ref A_SizeError) = some false) (vk2_21 : PySem.W.kitOne K (.ref A_InvalidBound) (.ref A_UnknownCommand) = some false) (vk2_22 : PySem.W.kitOne K (.ref A_InvalidBound) (.type "ValueError") = some true)
    (vf2_0 : PySem.W.findIn K (.ref A_InvalidBound) "value" = some none)
    (va3 : PySem.W.findIn K (.ref A_Contradiction) "__getattribute__" = some (some (.builtin "BaseException.__getattribute__"))) (vg3 : PySem.W.findIn K (.ref A_Contradiction) "__getattr__" = some none) (vd3 : PySem.W.hasDictIn K A_Contradiction = true) (vc3 : PySem.W.findIn K (.ref A_Contradiction) "__class__" = some (some (.builtin "object.__class__"))) (vm3 : PySem.W.mroIn K A_Contradiction (.type "object") = some true)
    (ve3_0 : PySem.W.subIn K (.ref A_Contradiction) (.ref A_EchoError) = some true) (ve3_1 : PySem.W.subIn K (.ref A_Contradiction) (.ref A_SizeError) = some false) (ve3_2 : PySem.W.subIn K (.ref A_Contradiction) (.ref A_AbsentError) = some false)
    (vk3_0 : PySem.W.kitOne K (.ref A_Contradiction) (.ref A_Contradiction) = some true) (vk3_1 : PySem.W.kitOne K (.ref A_Contradiction) (.ref A_DifferentModes) = some false) (vk3_2 : PySem.W.kitOne K (.ref A_Contradiction) (.ref A_Finished) = some false) (vk3_3 : PySem.W.kitOne K (.ref A_Contradiction) (.ref A_InvalidAccount) = some false) (vk3_4 : PySem.W.kitOne K (.ref A_Contradiction) (.ref A_InvalidBound) = some false) (vk3_5 : PySem.W.kitOne K (.ref A_Contradiction) (.ref A_InvalidCapacity) = some false) (vk3_6 : PySem.W.kitOne K (.ref A_Contradiction) (.ref A_InvalidMode) = some false) (vk3_7 : PySem.W.kitOne K (.ref A_Contradiction) (.ref A_InvalidNumber) = some false) (vk3_8 : PySem.W.kitOne K (.ref A_Contradiction) (.ref A_InvalidProgram) = some false) (vk3_9 : PySem.W.kitOne K (.ref A_Contradiction) (.ref A_InvalidReading) = some false) (vk3_10 : PySem.W.kitOne K (.ref A_Contradiction) (.ref A_InvalidRow) = some false) (vk3_11 : PySem.W.kitOne K (.ref A_Contradiction) (.ref A_InvalidTable) = some false) (vk3_12 : PySem.W.kitOne K (.ref A_Contradiction) (.ref A_InvalidText) = some false) (vk3_13 : PySem.W.kitOne K (.ref A_Contradiction) (.type "LookupError") = some false) (vk3_14 : PySem.W.kitOne K (.ref A_Contradiction) (.ref A_Lossy) = some false) (vk3_15 : PySem.W.kitOne K (.ref A_Contradiction) (.ref A_NoName) = some false) (vk3_16 : PySem.W.kitOne K (.ref A_Contradiction) (.ref A_NoPlace) = some false) (vk3_17 : PySem.W.kitOne K (.ref A_Contradiction) (.ref A_NoPoint) = some false) (vk3_18 : PySem.W.kitOne K (.ref A_Contradiction) (.ref A_NoReading) = some false) (vk3_19 : PySem.W.kitOne K (.ref A_Contradiction) (.ref A_NothingToUndo) = some false) (vk3_20 : PySem.W.kitOne K (.ref A_Contradiction) (.ref A_SizeError) = some false) (vk3_21 : PySem.W.kitOne K (.ref A_Contradiction) (.ref A_UnknownCommand) = some false) (vk3_22 : PySem.W.kitOne K (.ref A_Contradiction) (.type "ValueError") = some true)
    (vf3_0 : PySem.W.findIn K (.ref A_Contradiction) "first" = some none) (vf3_1 : PySem.W.findIn K (.ref A_Contradiction) "second" = some none)
    (va4 : PySem.W.findIn K (.ref A_NoReading) "__getattribute__" = some (some (.builtin "BaseException.__getattribute__"))) (vg4 : PySem.W.findIn K (.ref A_NoReading) "__getattr__" = some none) (vd4 : PySem.W.hasDictIn K A_NoReading = true) (vc4 : PySem.W.findIn K (.ref A_NoReading) "__class__" = some (some (.builtin "object.__class__"))) (vm4 : PySem.W.mroIn K A_NoReading (.type "object") = some true)
    (ve4_0 : PySem.W.subIn K (.ref A_NoReading) (.ref A_EchoError) = some false) (ve4_1 : PySem.W.subIn K (.ref A_NoReading) (.ref A_SizeError) = some false) (ve4_2 : PySem.W.subIn K (.ref A_NoReading) (.ref A_AbsentError) = some true)
    (vk4_0 : PySem.W.kitOne K (.ref A_NoReading) (.ref A_Contradiction) = some false) (vk4_1 : PySem.W.kitOne K (.ref A_NoReading) (.ref A_DifferentModes) = some false) (vk4_2 : PySem.W.kitOne K (.ref A_NoReading) (.ref A_Finished) = some false) (vk4_3 : PySem.W.kitOne K (.ref A_NoReading) (.ref A_InvalidAccount) = some false) (vk4_4 : PySem.W.kitOne K (.ref A_NoReading) (.ref A_InvalidBound) = some false) (vk4_5 : PySem.W.kitOne K (.ref A_NoReading) (.ref A_InvalidCapacity) = some false) (vk4_6 : PySem.W.kitOne K (.ref A_NoReading) (.ref A_InvalidMode) = some false) (vk4_7 : PySem.W.kitOne K (.ref A_NoReading) (.ref A_InvalidNumber) = some false) (vk4_8 : PySem.W.kitOne K (.ref A_NoReading) (.ref A_InvalidProgram) = some false) (vk4_9 : PySem.W.kitOne K (.ref A_NoReading) (.ref A_InvalidReading) = some false) (vk4_10 : PySem.W.kitOne K (.ref A_NoReading) (.ref A_InvalidRow) = some false) (vk4_11 : PySem.W.kitOne K (.ref A_NoReading) (.ref A_InvalidTable) = some false) (vk4_12 : PySem.W.kitOne K (.ref A_NoReading) (.ref A_InvalidText) = some false) (vk4_13 : PySem.W.kitOne K (.ref A_NoReading) (.type "LookupError") = some true) (vk4_14 : PySem.W.kitOne K (.ref A_NoReading) (.ref A_Lossy) = some false) (vk4_15 : PySem.W.kitOne K (.ref A_NoReading) (.ref A_NoName) = some false) (vk4_16 : PySem.W.kitOne K (.ref A_NoReading) (.ref A_NoPlace) = some false) (vk4_17 : PySem.W.kitOne K (.ref A_NoReading) (.ref A_NoPoint) = some false) (vk4_18 : PySem.W.kitOne K (.ref A_NoReading) (.ref A_NoReading) = some true) (vk4_19 : PySem.W.kitOne K (.ref A_NoReading) (.ref A_NothingToUndo) = some false) (vk4_20 : PySem.W.kitOne K (.ref A_NoReading) (.ref A_SizeError) = some false) (vk4_21 : PySem.W.kitOne K (.ref A_NoReading) (.ref A_UnknownCommand) = some false) (vk4_22 : PySem.W.kitOne K (.ref A_NoReading) (.type "ValueError") = some false)
    (vf4_0 : PySem.W.findIn K (.ref A_NoReading) "asked" = some none)
    (va5 : PySem.W.findIn K (.ref A_NothingToUndo) "__getattribute__" = some (some (.builtin "BaseException.__getattribute__"))) (vg5 : PySem.W.findIn K (.ref A_NothingToUndo) "__getattr__" = some none) (vd5 : PySem.W.hasDictIn K A_NothingToUndo = true) (vc5 : PySem.W.findIn K (.ref A_NothingToUndo) "__class__" = some (some (.builtin "object.__class__"))) (vm5 : PySem.W.mroIn K A_NothingToUndo (.type "object") = some true)
    (ve5_0 : PySem.W.subIn K (.ref A_NothingToUndo) (.ref A_EchoError) = some false) (ve5_1 : PySem.W.subIn K (.ref A_NothingToUndo) (.ref A_SizeError) = some false) (ve5_2 : PySem.W.subIn K (.ref A_NothingToUndo) (.ref A_AbsentError) = some true)
    (vk5_0 : PySem.W.kitOne K (.ref A_NothingToUndo) (.ref A_Contradiction) = some false) (vk5_1 : PySem.W.kitOne K (.ref A_NothingToUndo) (.ref A_DifferentModes) = some false) (vk5_2 : PySem.W.kitOne K (.ref A_NothingToUndo) (.ref A_Finished) = some false) (vk5_3 : PySem.W.kitOne K (.ref A_NothingToUndo) (.ref A_InvalidAccount) = some false) (vk5_4 : PySem.W.kitOne K (.ref A_NothingToUndo) (.ref A_InvalidBound) = some false) (vk5_5 : PySem.W.kitOne K (.ref A_NothingToUndo) (.ref A_InvalidCapacity) = some false) (vk5_6 : PySem.W.kitOne K (.ref A_NothingToUndo) (.ref A_InvalidMode) = some false) (vk5_7 : PySem.W.kitOne K (.ref A_NothingToUndo) (.ref A_InvalidNumber) = some false) (vk5_8 : PySem.W.kitOne K (.ref A_NothingToUndo) (.ref A_InvalidProgram) = some false) (vk5_9 : PySem.W.kitOne K (.ref A_NothingToUndo) (.ref A_InvalidReading) = some false) (vk5_10 : PySem.W.kitOne K (.ref A_NothingToUndo) (.ref A_InvalidRow) = some false) (vk5_11 : PySem.W.kitOne K (.ref A_NothingToUndo) (.ref A_InvalidTable) = some false) (vk5_12 : PySem.W.kitOne K (.ref A_NothingToUndo) (.ref A_InvalidText) = some false) (vk5_13 : PySem.W.kitOne K (.ref A_NothingToUndo) (.type "LookupError") = some true) (vk5_14 : PySem.W.kitOne K (.ref A_NothingToUndo) (.ref A_Lossy) = some false) (vk5_15 : PySem.W.kitOne K (.ref A_NothingToUndo) (.ref A_NoName) = some false) (vk5_16 : PySem.W.kitOne K (.ref A_NothingToUndo) (.ref A_NoPlace) = some false) (vk5_17 : PySem.W.kitOne K (.ref A_NothingToUndo) (.ref A_NoPoint) = some false) (vk5_18 : PySem.W.kitOne K (.ref A_NothingToUndo) (.ref A_NoReading) = some false) (vk5_19 : PySem.W.kitOne K (.ref A_NothingToUndo) (.ref A_NothingToUndo) = some true) (vk5_20 : PySem.W.kitOne K (.ref A_NothingToUndo) (.ref A_SizeError) = some false) (vk5_21 : PySem.W.kitOne K (.ref A_NothingToUndo) (.ref A_UnknownCommand) = some false) (vk5_22 : PySem.W.kitOne K (.ref A_NothingToUndo) (.type "ValueError") = some false)
    (vf5_0 : PySem.W.findIn K (.ref A_NothingToUndo) "count" = some none)
    (a0 : PySem.W.nsIn K mainGlobals "is_integer" = some (some (.ref f0))) (l0 : K.lookup f0 = some ⟨oc0, od0, .func (PySem.W.fnOf "is_integer" "is_integer" (defArgs s_is_integer) (defBody s_is_integer) (defScope s_is_integer) .none kV0 dc0 pm0 an0 cd0 ct0), sl0⟩) (c0 : PySem.W.codeIn K cd0 "is_integer" = true) (k0 : PySem.W.keepIn K (.ref f0) = true)
    (a1 : PySem.W.nsIn K mainGlobals "is_between" = some (some (.ref f1))) (l1 : K.lookup f1 = some ⟨oc1, od1, .func (PySem.W.fnOf "is_between" "is_between" (defArgs s_is_between) (defBody s_is_between) (defScope s_is_between) .none kV1 dc1 pm1 an1 cd1 ct1), sl1⟩) (c1 : PySem.W.codeIn K cd1 "is_between" = true) (k1 : PySem.W.keepIn K (.ref f1) = true)
    (a2 : PySem.W.nsIn K mainGlobals "common_divisor" = some (some (.ref f2))) (l2 : K.lookup f2 = some ⟨oc2, od2, .func (PySem.W.fnOf "common_divisor" "common_divisor" (defArgs s_common_divisor) (defBody s_common_divisor) (defScope s_common_divisor) .none kV2 dc2 pm2 an2 cd2 ct2), sl2⟩) (c2 : PySem.W.codeIn K cd2 "common_divisor" = true) (k2 : PySem.W.keepIn K (.ref f2) = true)
    (a3 : PySem.W.nsIn K mainGlobals "modulus_of" = some (some (.ref f3))) (l3 : K.lookup f3 = some ⟨oc3, od3, .func (PySem.W.fnOf "modulus_of" "modulus_of" (defArgs s_modulus_of) (defBody s_modulus_of) (defScope s_modulus_of) .none kV3 dc3 pm3 an3 cd3 ct3), sl3⟩) (c3 : PySem.W.codeIn K cd3 "modulus_of" = true) (k3 : PySem.W.keepIn K (.ref f3) = true)
    (a4 : PySem.W.nsIn K mainGlobals "shared" = some (some (.ref f4))) (l4 : K.lookup f4 = some ⟨oc4, od4, .func (PySem.W.fnOf "shared" "shared" (defArgs s_shared) (defBody s_shared) (defScope s_shared) .none kV4 dc4 pm4 an4 cd4 ct4), sl4⟩) (c4 : PySem.W.codeIn K cd4 "shared" = true) (k4 : PySem.W.keepIn K (.ref f4) = true)
    (a5 : PySem.W.nsIn K mainGlobals "do_agree" = some (some (.ref f5))) (l5 : K.lookup f5 = some ⟨oc5, od5, .func (PySem.W.fnOf "do_agree" "do_agree" (defArgs s_do_agree) (defBody s_do_agree) (defScope s_do_agree) .none kV5 dc5 pm5 an5 cd5 ct5), sl5⟩) (c5 : PySem.W.codeIn K cd5 "do_agree" = true) (k5 : PySem.W.keepIn K (.ref f5) = true)
    (a6 : PySem.W.nsIn K mainGlobals "need_capacity_meters" = some (some (.ref f6))) (l6 : K.lookup f6 = some ⟨oc6, od6, .func (PySem.W.fnOf "need_capacity" "need_capacity" (defArgs s_need_capacity_meters) (defBody s_need_capacity_meters) (defScope s_need_capacity_meters) .none kV6 dc6 pm6 an6 cd6 ct6), sl6⟩) (c6 : PySem.W.codeIn K cd6 "need_capacity" = true) (k6 : PySem.W.keepIn K (.ref f6) = true)
    (a7 : PySem.W.nsIn K mainGlobals "need_bound" = some (some (.ref f7))) (l7 : K.lookup f7 = some ⟨oc7, od7, .func (PySem.W.fnOf "need_bound" "need_bound" (defArgs s_need_bound) (defBody s_need_bound) (defScope s_need_bound) .none kV7 dc7 pm7 an7 cd7 ct7), sl7⟩) (c7 : PySem.W.codeIn K cd7 "need_bound" = true) (k7 : PySem.W.keepIn K (.ref f7) = true)
    (a8_Meter : PySem.W.findIn K (.ref A_Meter) "__init__" = some (some (.ref f8))) (i8 : PySem.W.isFn K (.ref f8) = true) (j8 : PySem.W.fnIn K f8 = true) (l8 : K.lookup f8 = some ⟨oc8, od8, .func (PySem.W.fnOf "__init__" "Meter.__init__" (defArgs s_Meter___init__) (defBody s_Meter___init__) (defScope s_Meter___init__) .none (.ref kD8) dc8 pm8 an8 cd8 ct8), sl8⟩) (c8 : PySem.W.codeIn K cd8 "Meter.__init__" = true) (k8 : PySem.W.keepIn K (.ref f8) = true)
    (e8_0 : PySem.W.nsIn K kD8 "most" = some (some Value.none))
    (a9_Meter : PySem.W.findIn K (.ref A_Meter) "readings" = some (some (.ref p9))) (pa9 : PySem.W.specialIn K (.ref p9) "__get__" = some (some (.builtin "property.__get__"))) (pb9 : PySem.W.takesIn K (.ref p9) = some true) (pc9 : PySem.W.recIn K p9 "property" = some (.ref f9 :: rs9)) (l9 : K.lookup f9 = some ⟨oc9, od9, .func (PySem.W.fnOf "readings" "Meter.readings" (defArgs s_Meter_readings) (defBody s_Meter_readings) (defScope s_Meter_readings) .none kV9 dc9 pm9 an9 cd9 ct9), sl9⟩) (c9 : PySem.W.codeIn K cd9 "Meter.readings" = true) (k9 : PySem.W.keepIn K (.ref f9) = true)
    (a10_Meter : PySem.W.findIn K (.ref A_Meter) "most" = some (some (.ref p10))) (pa10 : PySem.W.specialIn K (.ref p10) "__get__" = some (some (.builtin "property.__get__"))) (pb10 : PySem.W.takesIn K (.ref p10) = some true) (pc10 : PySem.W.recIn K p10 "property" = some (.ref f10 :: rs10)) (l10 : K.lookup f10 = some ⟨oc10, od10, .func (PySem.W.fnOf "most" "Meter.most" (defArgs s_Meter_most) (defBody s_Meter_most) (defScope s_Meter_most) .none kV10 dc10 pm10 an10 cd10 ct10), sl10⟩) (c10 : PySem.W.codeIn K cd10 "Meter.most" = true) (k10 : PySem.W.keepIn K (.ref f10) = true)
    (a11_Meter : PySem.W.findIn K (.ref A_Meter) "steps" = some (some (.ref p11))) (pa11 : PySem.W.specialIn K (.ref p11) "__get__" = some (some (.builtin "property.__get__"))) (pb11 : PySem.W.takesIn K (.ref p11) = some true) (pc11 : PySem.W.recIn K p11 "property" = some (.ref f11 :: rs11)) (l11 : K.lookup f11 = some ⟨oc11, od11, .func (PySem.W.fnOf "steps" "Meter.steps" (defArgs s_Meter_steps) (defBody s_Meter_steps) (defScope s_Meter_steps) .none kV11 dc11 pm11 an11 cd11 ct11), sl11⟩) (c11 : PySem.W.codeIn K cd11 "Meter.steps" = true) (k11 : PySem.W.keepIn K (.ref f11) = true)
    (a12_Meter : PySem.W.findIn K (.ref A_Meter) "settle" = some (some (.ref f12))) (i12 : PySem.W.isFn K (.ref f12) = true) (j12 : PySem.W.fnIn K f12 = true) (l12 : K.lookup f12 = some ⟨oc12, od12, .func (PySem.W.fnOf "settle" "Meter.settle" (defArgs s_Meter_settle) (defBody s_Meter_settle) (defScope s_Meter_settle) .none kV12 dc12 pm12 an12 cd12 ct12), sl12⟩) (c12 : PySem.W.codeIn K cd12 "Meter.settle" = true) (k12 : PySem.W.keepIn K (.ref f12) = true)
    (a13_Meter : PySem.W.findIn K (.ref A_Meter) "take" = some (some (.ref f13))) (i13 : PySem.W.isFn K (.ref f13) = true) (j13 : PySem.W.fnIn K f13 = true) (l13 : K.lookup f13 = some ⟨oc13, od13, .func (PySem.W.fnOf "take" "Meter.take" (defArgs s_Meter_take) (defBody s_Meter_take) (defScope s_Meter_take) .none kV13 dc13 pm13 an13 cd13 ct13), sl13⟩) (c13 : PySem.W.codeIn K cd13 "Meter.take" = true) (k13 : PySem.W.keepIn K (.ref f13) = true)
    (a14_Meter : PySem.W.findIn K (.ref A_Meter) "add" = some (some (.ref f14))) (i14 : PySem.W.isFn K (.ref f14) = true) (j14 : PySem.W.fnIn K f14 = true) (l14 : K.lookup f14 = some ⟨oc14, od14, .func (PySem.W.fnOf "add" "Meter.add" (defArgs s_Meter_add) (defBody s_Meter_add) (defScope s_Meter_add) .none kV14 dc14 pm14 an14 cd14 ct14), sl14⟩) (c14 : PySem.W.codeIn K cd14 "Meter.add" = true) (k14 : PySem.W.keepIn K (.ref f14) = true)
    (a15_Meter : PySem.W.findIn K (.ref A_Meter) "__len__" = some (some (.ref f15))) (i15 : PySem.W.isFn K (.ref f15) = true) (j15 : PySem.W.fnIn K f15 = true) (l15 : K.lookup f15 = some ⟨oc15, od15, .func (PySem.W.fnOf "__len__" "Meter.__len__" (defArgs s_Meter___len__) (defBody s_Meter___len__) (defScope s_Meter___len__) .none kV15 dc15 pm15 an15 cd15 ct15), sl15⟩) (c15 : PySem.W.codeIn K cd15 "Meter.__len__" = true) (k15 : PySem.W.keepIn K (.ref f15) = true)
    (a16_Meter : PySem.W.findIn K (.ref A_Meter) "__contains__" = some (some (.ref f16))) (i16 : PySem.W.isFn K (.ref f16) = true) (j16 : PySem.W.fnIn K f16 = true) (l16 : K.lookup f16 = some ⟨oc16, od16, .func (PySem.W.fnOf "__contains__" "Meter.__contains__" (defArgs s_Meter___contains__) (defBody s_Meter___contains__) (defScope s_Meter___contains__) .none kV16 dc16 pm16 an16 cd16 ct16), sl16⟩) (c16 : PySem.W.codeIn K cd16 "Meter.__contains__" = true) (k16 : PySem.W.keepIn K (.ref f16) = true)
    (a17_Meter : PySem.W.findIn K (.ref A_Meter) "__getitem__" = some (some (.ref f17))) (i17 : PySem.W.isFn K (.ref f17) = true) (j17 : PySem.W.fnIn K f17 = true) (l17 : K.lookup f17 = some ⟨oc17, od17, .func (PySem.W.fnOf "__getitem__" "Meter.__getitem__" (defArgs s_Meter___getitem__) (defBody s_Meter___getitem__) (defScope s_Meter___getitem__) .none kV17 dc17 pm17 an17 cd17 ct17), sl17⟩) (c17 : PySem.W.codeIn K cd17 "Meter.__getitem__" = true) (k17 : PySem.W.keepIn K (.ref f17) = true)
    (a18 : PySem.W.nsIn K mainGlobals "_law_pen" = some (some (.ref f18))) (l18 : K.lookup f18 = some ⟨oc18, od18, .func (PySem.W.fnOf "_law_pen" "_law_pen" (defArgs s__law_pen) (defBody s__law_pen) (defScope s__law_pen) .none kV18 dc18 pm18 an18 cd18 ct18), sl18⟩) (c18 : PySem.W.codeIn K cd18 "_law_pen" = true) (k18 : PySem.W.keepIn K (.ref f18) = true)
    (a19 : PySem.W.nsIn K mainGlobals "_law_draw" = some (some (.ref f19))) (l19 : K.lookup f19 = some ⟨oc19, od19, .func (PySem.W.fnOf "_law_draw" "_law_draw" (defArgs s__law_draw) (defBody s__law_draw) (defScope s__law_draw) .none kV19 dc19 pm19 an19 cd19 ct19), sl19⟩) (c19 : PySem.W.codeIn K cd19 "_law_draw" = true) (k19 : PySem.W.keepIn K (.ref f19) = true)
    (a20 : PySem.W.nsIn K mainGlobals "_law_divisor" = some (some (.ref f20))) (l20 : K.lookup f20 = some ⟨oc20, od20, .func (PySem.W.fnOf "_law_divisor" "_law_divisor" (defArgs s__law_divisor) (defBody s__law_divisor) (defScope s__law_divisor) .none kV20 dc20 pm20 an20 cd20 ct20), sl20⟩) (c20 : PySem.W.codeIn K cd20 "_law_divisor" = true) (k20 : PySem.W.keepIn K (.ref f20) = true)
    (a21 : PySem.W.nsIn K mainGlobals "_law_agree" = some (some (.ref f21))) (l21 : K.lookup f21 = some ⟨oc21, od21, .func (PySem.W.fnOf "_law_agree" "_law_agree" (defArgs s__law_agree) (defBody s__law_agree) (defScope s__law_agree) .none kV21 dc21 pm21 an21 cd21 ct21), sl21⟩) (c21 : PySem.W.codeIn K cd21 "_law_agree" = true) (k21 : PySem.W.keepIn K (.ref f21) = true)
    (a22 : PySem.W.nsIn K mainGlobals "_law_size" = some (some (.ref f22))) (l22 : K.lookup f22 = some ⟨oc22, od22, .func (PySem.W.fnOf "_law_size" "_law_size" (defArgs s__law_size) (defBody s__law_size) (defScope s__law_size) .none kV22 dc22 pm22 an22 cd22 ct22), sl22⟩) (c22 : PySem.W.codeIn K cd22 "_law_size" = true) (k22 : PySem.W.keepIn K (.ref f22) = true)
    (a23 : PySem.W.nsIn K mainGlobals "_law_source" = some (some (.ref f23))) (l23 : K.lookup f23 = some ⟨oc23, od23, .func (PySem.W.fnOf "_law_source" "_law_source" (defArgs s__law_source) (defBody s__law_source) (defScope s__law_source) .none kV23 dc23 pm23 an23 cd23 ct23), sl23⟩) (c23 : PySem.W.codeIn K cd23 "_law_source" = true) (k23 : PySem.W.keepIn K (.ref f23) = true)
    (a24 : PySem.W.nsIn K mainGlobals "_law_length" = some (some (.ref f24))) (l24 : K.lookup f24 = some ⟨oc24, od24, .func (PySem.W.fnOf "_law_length" "_law_length" (defArgs s__law_length) (defBody s__law_length) (defScope s__law_length) .none kV24 dc24 pm24 an24 cd24 ct24), sl24⟩) (c24 : PySem.W.codeIn K cd24 "_law_length" = true) (k24 : PySem.W.keepIn K (.ref f24) = true)
    (a25 : PySem.W.nsIn K mainGlobals "_law_reading" = some (some (.ref f25))) (l25 : K.lookup f25 = some ⟨oc25, od25, .func (PySem.W.fnOf "_law_reading" "_law_reading" (defArgs s__law_reading) (defBody s__law_reading) (defScope s__law_reading) .none kV25 dc25 pm25 an25 cd25 ct25), sl25⟩) (c25 : PySem.W.codeIn K cd25 "_law_reading" = true) (k25 : PySem.W.keepIn K (.ref f25) = true)
    (a26 : PySem.W.nsIn K mainGlobals "_law_fields" = some (some (.ref f26))) (l26 : K.lookup f26 = some ⟨oc26, od26, .func (PySem.W.fnOf "_law_fields" "_law_fields" (defArgs s__law_fields) (defBody s__law_fields) (defScope s__law_fields) .none kV26 dc26 pm26 an26 cd26 ct26), sl26⟩) (c26 : PySem.W.codeIn K cd26 "_law_fields" = true) (k26 : PySem.W.keepIn K (.ref f26) = true)
    (a27 : PySem.W.nsIn K mainGlobals "_law_heard" = some (some (.ref f27))) (l27 : K.lookup f27 = some ⟨oc27, od27, .func (PySem.W.fnOf "_law_heard" "_law_heard" (defArgs s__law_heard) (defBody s__law_heard) (defScope s__law_heard) .none kV27 dc27 pm27 an27 cd27 ct27), sl27⟩) (c27 : PySem.W.codeIn K cd27 "_law_heard" = true) (k27 : PySem.W.keepIn K (.ref f27) = true)
    (a28 : PySem.W.nsIn K mainGlobals "_law_odd" = some (some (.ref f28))) (l28 : K.lookup f28 = some ⟨oc28, od28, .func (PySem.W.fnOf "_law_odd" "_law_odd" (defArgs s__law_odd) (defBody s__law_odd) (defScope s__law_odd) .none kV28 dc28 pm28 an28 cd28 ct28), sl28⟩) (c28 : PySem.W.codeIn K cd28 "_law_odd" = true) (k28 : PySem.W.keepIn K (.ref f28) = true)
    (a29 : PySem.W.nsIn K mainGlobals "_law_added" = some (some (.ref f29))) (l29 : K.lookup f29 = some ⟨oc29, od29, .func (PySem.W.fnOf "_law_added" "_law_added" (defArgs s__law_added) (defBody s__law_added) (defScope s__law_added) .none kV29 dc29 pm29 an29 cd29 ct29), sl29⟩) (c29 : PySem.W.codeIn K cd29 "_law_added" = true) (k29 : PySem.W.keepIn K (.ref f29) = true)
    (a30 : PySem.W.nsIn K mainGlobals "_law_stands" = some (some (.ref f30))) (l30 : K.lookup f30 = some ⟨oc30, od30, .func (PySem.W.fnOf "_law_stands" "_law_stands" (defArgs s__law_stands) (defBody s__law_stands) (defScope s__law_stands) .none kV30 dc30 pm30 an30 (.ref cc1) ct30), sl30⟩) (c30 : PySem.W.codeIn K (.ref cc1) "_law_stands" = true) (k30 : PySem.W.keepIn K (.ref f30) = true) (ty1 : K.lookup cc1 = some ⟨qc1, qd1, .fields qv1, qs1⟩) (rv1 : qv1[11]? = some (.ref tp1)) (tn1 : K.lookup tp1 = none)
    (a31 : PySem.W.nsIn K mainGlobals "law" = some (some (.ref f31))) (l31 : K.lookup f31 = some ⟨oc31, od31, .func (PySem.W.fnOf "law" "law" (defArgs s_law) (defBody s_law) (defScope s_law) .none kV31 dc31 pm31 an31 (.ref cc0) ct31), sl31⟩) (c31 : PySem.W.codeIn K (.ref cc0) "law" = true) (k31 : PySem.W.keepIn K (.ref f31) = true) (ty0 : K.lookup cc0 = some ⟨qc0, qd0, .fields qv0, qs0⟩) (rv0 : qv0[11]? = some (.ref tp0)) (tn0 : K.lookup tp0 = none)
    (l32 : K.lookup f32 = some ⟨oc32, od32, .func (PySem.W.fnOf "__init__" "Contradiction.__init__" (defArgs s_Contradiction___init__) (defBody s_Contradiction___init__) (defScope s_Contradiction___init__) .none kV32 dc32 pm32 an32 cd32 ct32), sl32⟩) (c32 : PySem.W.codeIn K cd32 "Contradiction.__init__" = true) (k32 : PySem.W.keepIn K (.ref f32) = true)
    (l33 : K.lookup f33 = some ⟨oc33, od33, .func (PySem.W.fnOf "__init__" "InvalidBound.__init__" (defArgs s_InvalidBound___init__) (defBody s_InvalidBound___init__) (defScope s_InvalidBound___init__) .none kV33 dc33 pm33 an33 cd33 ct33), sl33⟩) (c33 : PySem.W.codeIn K cd33 "InvalidBound.__init__" = true) (k33 : PySem.W.keepIn K (.ref f33) = true)
    (l34 : K.lookup f34 = some ⟨oc34, od34, .func (PySem.W.fnOf "__init__" "InvalidCapacity.__init__" (defArgs s_InvalidCapacity___init__) (defBody s_InvalidCapacity___init__) (defScope s_InvalidCapacity___init__) .none kV34 dc34 pm34 an34 cd34 ct34), sl34⟩) (c34 : PySem.W.codeIn K cd34 "InvalidCapacity.__init__" = true) (k34 : PySem.W.keepIn K (.ref f34) = true)
    (l35 : K.lookup f35 = some ⟨oc35, od35, .func (PySem.W.fnOf "__init__" "InvalidReading.__init__" (defArgs s_InvalidReading___init__) (defBody s_InvalidReading___init__) (defScope s_InvalidReading___init__) .none kV35 dc35 pm35 an35 cd35 ct35), sl35⟩) (c35 : PySem.W.codeIn K cd35 "InvalidReading.__init__" = true) (k35 : PySem.W.keepIn K (.ref f35) = true)
    (l36 : K.lookup f36 = some ⟨oc36, od36, .func (PySem.W.fnOf "__init__" "NoReading.__init__" (defArgs s_NoReading___init__) (defBody s_NoReading___init__) (defScope s_NoReading___init__) .none kV36 dc36 pm36 an36 cd36 ct36), sl36⟩) (c36 : PySem.W.codeIn K cd36 "NoReading.__init__" = true) (k36 : PySem.W.keepIn K (.ref f36) = true)
    (rd : [tp0, tp1].Nodup)
    (z0 : PySem.W.nsIn K mainGlobals "LookupError" = some none)
    (z1 : PySem.W.nsIn K mainGlobals "ValueError" = some none)
    (z2 : PySem.W.nsIn K mainGlobals "abs" = some none)
    (z3 : PySem.W.nsIn K mainGlobals "any" = some none)
    (z4 : PySem.W.nsIn K mainGlobals "bool" = some none)
    (z5 : PySem.W.nsIn K mainGlobals "int" = some none)
    (z6 : PySem.W.nsIn K mainGlobals "isinstance" = some none)
    (z7 : PySem.W.nsIn K mainGlobals "len" = some none)
    (z8 : PySem.W.nsIn K mainGlobals "list" = some none)
    (z9 : PySem.W.nsIn K mainGlobals "range" = some none)
    (z10 : PySem.W.nsIn K mainGlobals "repr" = some none)
    (z11 : PySem.W.nsIn K mainGlobals "sorted" = some none)
    (z12 : PySem.W.nsIn K mainGlobals "sum" = some none)
    (z13 : PySem.W.nsIn K mainGlobals "tuple" = some none)
    {t0 : Tok} (g0 : PySem.W.nsIn K mainGlobals "MOST_LENGTH" = some (some (Value.int 1000000000000000000000000000000 t0)))
    {t1 : Tok} (g1 : PySem.W.nsIn K mainGlobals "MOST_READ" = some (some (Value.int 10000 t1)))
    : LawT true l w K 8 63 "_law_script" mg fa ["law", "_law_stands"] := by
  have e := hfa.symm.trans (PySem.W.mg_of X G a31)
  cases e
  let z : Ad := { Meter := A_Meter, AbsentError := A_AbsentError, Contradiction := A_Contradiction, DifferentModes := A_DifferentModes, EchoError := A_EchoError, Finished := A_Finished, InvalidAccount := A_InvalidAccount, InvalidBound := A_InvalidBound, InvalidCapacity := A_InvalidCapacity, InvalidMode := A_InvalidMode, InvalidNumber := A_InvalidNumber, InvalidProgram := A_InvalidProgram, InvalidReading := A_InvalidReading, InvalidRow := A_InvalidRow, InvalidTable := A_InvalidTable, InvalidText := A_InvalidText, Lossy := A_Lossy, NoName := A_NoName, NoPlace := A_NoPlace, NoPoint := A_NoPoint, NoReading := A_NoReading, NothingToUndo := A_NothingToUndo, SizeError := A_SizeError, UnknownCommand := A_UnknownCommand, t0 := tp0, t1 := tp1 }
  have xva_InvalidCapacity : XVal K A_InvalidCapacity := ⟨va0, vg0, xb2, vd0, vc0, vn, vt, vm0⟩
  have xva_InvalidReading : XVal K A_InvalidReading := ⟨va1, vg1, xb3, vd1, vc1, vn, vt, vm1⟩
  have xva_InvalidBound : XVal K A_InvalidBound := ⟨va2, vg2, xb1, vd2, vc2, vn, vt, vm2⟩
  have xva_Contradiction : XVal K A_Contradiction := ⟨va3, vg3, xb0, vd3, vc3, vn, vt, vm3⟩
  have xva_NoReading : XVal K A_NoReading := ⟨va4, vg4, xb4, vd4, vc4, vn, vt, vm4⟩
  have xva_NothingToUndo : XVal K A_NothingToUndo := ⟨va5, vg5, xb5, vd5, vc5, vn, vt, vm5⟩
  have xq_0_0 : XVal K A_InvalidCapacity ∧ ∃ v u, ClsD (.ref A_Contradiction) v u ∧ PySem.W.kitOne K (.ref A_InvalidCapacity) u = some false := ⟨xva_InvalidCapacity, _, _, .own _, vk0_0⟩
  have xq_0_1 : XVal K A_InvalidCapacity ∧ ∃ v u, ClsD (.ref A_DifferentModes) v u ∧ PySem.W.kitOne K (.ref A_InvalidCapacity) u = some false := ⟨xva_InvalidCapacity, _, _, .own _, vk0_1⟩
  have xq_0_2 : XVal K A_InvalidCapacity ∧ ∃ v u, ClsD (.ref A_Finished) v u ∧ PySem.W.kitOne K (.ref A_InvalidCapacity) u = some false := ⟨xva_InvalidCapacity, _, _, .own _, vk0_2⟩
  have xq_0_3 : XVal K A_InvalidCapacity ∧ ∃ v u, ClsD (.ref A_InvalidAccount) v u ∧ PySem.W.kitOne K (.ref A_InvalidCapacity) u = some false := ⟨xva_InvalidCapacity, _, _, .own _, vk0_3⟩
  have xq_0_4 : XVal K A_InvalidCapacity ∧ ∃ v u, ClsD (.ref A_InvalidBound) v u ∧ PySem.W.kitOne K (.ref A_InvalidCapacity) u = some false := ⟨xva_InvalidCapacity, _, _, .own _, vk0_4⟩
  have xq_0_5 : XVal K A_InvalidCapacity ∧ ∃ v u, ClsD (.ref A_InvalidCapacity) v u ∧ PySem.W.kitOne K (.ref A_InvalidCapacity) u = some true := ⟨xva_InvalidCapacity, _, _, .own _, vk0_5⟩
  have xq_0_6 : XVal K A_InvalidCapacity ∧ ∃ v u, ClsD (.ref A_InvalidMode) v u ∧ PySem.W.kitOne K (.ref A_InvalidCapacity) u = some false := ⟨xva_InvalidCapacity, _, _, .own _, vk0_6⟩
  have xq_0_7 : XVal K A_InvalidCapacity ∧ ∃ v u, ClsD (.ref A_InvalidNumber) v u ∧ PySem.W.kitOne K (.ref A_InvalidCapacity) u = some false := ⟨xva_InvalidCapacity, _, _, .own _, vk0_7⟩
  have xq_0_8 : XVal K A_InvalidCapacity ∧ ∃ v u, ClsD (.ref A_InvalidProgram) v u ∧ PySem.W.kitOne K (.ref A_InvalidCapacity) u = some false := ⟨xva_InvalidCapacity, _, _, .own _, vk0_8⟩
  have xq_0_9 : XVal K A_InvalidCapacity ∧ ∃ v u, ClsD (.ref A_InvalidReading) v u ∧ PySem.W.kitOne K (.ref A_InvalidCapacity) u = some false := ⟨xva_InvalidCapacity, _, _, .own _, vk0_9⟩
  have xq_0_10 : XVal K A_InvalidCapacity ∧ ∃ v u, ClsD (.ref A_InvalidRow) v u ∧ PySem.W.kitOne K (.ref A_InvalidCapacity) u = some false := ⟨xva_InvalidCapacity, _, _, .own _, vk0_10⟩
  have xq_0_11 : XVal K A_InvalidCapacity ∧ ∃ v u, ClsD (.ref A_InvalidTable) v u ∧ PySem.W.kitOne K (.ref A_InvalidCapacity) u = some false := ⟨xva_InvalidCapacity, _, _, .own _, vk0_11⟩
  have xq_0_12 : XVal K A_InvalidCapacity ∧ ∃ v u, ClsD (.ref A_InvalidText) v u ∧ PySem.W.kitOne K (.ref A_InvalidCapacity) u = some false := ⟨xva_InvalidCapacity, _, _, .own _, vk0_12⟩
  have xq_0_13 : XVal K A_InvalidCapacity ∧ ∃ v u, ClsD (.ty "LookupError") v u ∧ PySem.W.kitOne K (.ref A_InvalidCapacity) u = some false := ⟨xva_InvalidCapacity, _, _, .ty _, vk0_13⟩
  have xq_0_14 : XVal K A_InvalidCapacity ∧ ∃ v u, ClsD (.ref A_Lossy) v u ∧ PySem.W.kitOne K (.ref A_InvalidCapacity) u = some false := ⟨xva_InvalidCapacity, _, _, .own _, vk0_14⟩
  have xq_0_15 : XVal K A_InvalidCapacity ∧ ∃ v u, ClsD (.ref A_NoName) v u ∧ PySem.W.kitOne K (.ref A_InvalidCapacity) u = some false := ⟨xva_InvalidCapacity, _, _, .own _, vk0_15⟩
  have xq_0_16 : XVal K A_InvalidCapacity ∧ ∃ v u, ClsD (.ref A_NoPlace) v u ∧ PySem.W.kitOne K (.ref A_InvalidCapacity) u = some false := ⟨xva_InvalidCapacity, _, _, .own _, vk0_16⟩
  have xq_0_17 : XVal K A_InvalidCapacity ∧ ∃ v u, ClsD (.ref A_NoPoint) v u ∧ PySem.W.kitOne K (.ref A_InvalidCapacity) u = some false := ⟨xva_InvalidCapacity, _, _, .own _, vk0_17⟩
  have xq_0_18 : XVal K A_InvalidCapacity ∧ ∃ v u, ClsD (.ref A_NoReading) v u ∧ PySem.W.kitOne K (.ref A_InvalidCapacity) u = some false := ⟨xva_InvalidCapacity, _, _, .own _, vk0_18⟩
  have xq_0_19 : XVal K A_InvalidCapacity ∧ ∃ v u, ClsD (.ref A_NothingToUndo) v u ∧ PySem.W.kitOne K (.ref A_InvalidCapacity) u = some false := ⟨xva_InvalidCapacity, _, _, .own _, vk0_19⟩
  have xq_0_20 : XVal K A_InvalidCapacity ∧ ∃ v u, ClsD (.ref A_SizeError) v u ∧ PySem.W.kitOne K (.ref A_InvalidCapacity) u = some false := ⟨xva_InvalidCapacity, _, _, .own _, vk0_20⟩
  have xq_0_21 : XVal K A_InvalidCapacity ∧ ∃ v u, ClsD (.ref A_UnknownCommand) v u ∧ PySem.W.kitOne K (.ref A_InvalidCapacity) u = some false := ⟨xva_InvalidCapacity, _, _, .own _, vk0_21⟩
  have xq_0_22 : XVal K A_InvalidCapacity ∧ ∃ v u, ClsD (.ty "ValueError") v u ∧ PySem.W.kitOne K (.ref A_InvalidCapacity) u = some true := ⟨xva_InvalidCapacity, _, _, .ty _, vk0_22⟩
  have xq_1_0 : XVal K A_InvalidReading ∧ ∃ v u, ClsD (.ref A_Contradiction) v u ∧ PySem.W.kitOne K (.ref A_InvalidReading) u = some false := ⟨xva_InvalidReading, _, _, .own _, vk1_0⟩
  have xq_1_1 : XVal K A_InvalidReading ∧ ∃ v u, ClsD (.ref A_DifferentModes) v u ∧ PySem.W.kitOne K (.ref A_InvalidReading) u = some false := ⟨xva_InvalidReading, _, _, .own _, vk1_1⟩
  have xq_1_2 : XVal K A_InvalidReading ∧ ∃ v u, ClsD (.ref A_Finished) v u ∧ PySem.W.kitOne K (.ref A_InvalidReading) u = some false := ⟨xva_InvalidReading, _, _, .own _, vk1_2⟩
  have xq_1_3 : XVal K A_InvalidReading ∧ ∃ v u, ClsD (.ref A_InvalidAccount) v u ∧ PySem.W.kitOne K (.ref A_InvalidReading) u = some false := ⟨xva_InvalidReading, _, _, .own _, vk1_3⟩
  have xq_1_4 : XVal K A_InvalidReading ∧ ∃ v u, ClsD (.ref A_InvalidBound) v u ∧ PySem.W.kitOne K (.ref A_InvalidReading) u = some false := ⟨xva_InvalidReading, _, _, .own _, vk1_4⟩
  have xq_1_5 : XVal K A_InvalidReading ∧ ∃ v u, ClsD (.ref A_InvalidCapacity) v u ∧ PySem.W.kitOne K (.ref A_InvalidReading) u = some false := ⟨xva_InvalidReading, _, _, .own _, vk1_5⟩
  have xq_1_6 : XVal K A_InvalidReading ∧ ∃ v u, ClsD (.ref A_InvalidMode) v u ∧ PySem.W.kitOne K (.ref A_InvalidReading) u = some false := ⟨xva_InvalidReading, _, _, .own _, vk1_6⟩
  have xq_1_7 : XVal K A_InvalidReading ∧ ∃ v u, ClsD (.ref A_InvalidNumber) v u ∧ PySem.W.kitOne K (.ref A_InvalidReading) u = some false := ⟨xva_InvalidReading, _, _, .own _, vk1_7⟩
  have xq_1_8 : XVal K A_InvalidReading ∧ ∃ v u, ClsD (.ref A_InvalidProgram) v u ∧ PySem.W.kitOne K (.ref A_InvalidReading) u = some false := ⟨xva_InvalidReading, _, _, .own _, vk1_8⟩
  have xq_1_9 : XVal K A_InvalidReading ∧ ∃ v u, ClsD (.ref A_InvalidReading) v u ∧ PySem.W.kitOne K (.ref A_InvalidReading) u = some true := ⟨xva_InvalidReading, _, _, .own _, vk1_9⟩
  have xq_1_10 : XVal K A_InvalidReading ∧ ∃ v u, ClsD (.ref A_InvalidRow) v u ∧ PySem.W.kitOne K (.ref A_InvalidReading) u = some false := ⟨xva_InvalidReading, _, _, .own _, vk1_10⟩
  have xq_1_11 : XVal K A_InvalidReading ∧ ∃ v u, ClsD (.ref A_InvalidTable) v u ∧ PySem.W.kitOne K (.ref A_InvalidReading) u = some false := ⟨xva_InvalidReading, _, _, .own _, vk1_11⟩
  have xq_1_12 : XVal K A_InvalidReading ∧ ∃ v u, ClsD (.ref A_InvalidText) v u ∧ PySem.W.kitOne K (.ref A_InvalidReading) u = some false := ⟨xva_InvalidReading, _, _, .own _, vk1_12⟩
  have xq_1_13 : XVal K A_InvalidReading ∧ ∃ v u, ClsD (.ty "LookupError") v u ∧ PySem.W.kitOne K (.ref A_InvalidReading) u = some false := ⟨xva_InvalidReading, _, _, .ty _, vk1_13⟩
  have xq_1_14 : XVal K A_InvalidReading ∧ ∃ v u, ClsD (.ref A_Lossy) v u ∧ PySem.W.kitOne K (.ref A_InvalidReading) u = some false := ⟨xva_InvalidReading, _, _, .own _, vk1_14⟩
  have xq_1_15 : XVal K A_InvalidReading ∧ ∃ v u, ClsD (.ref A_NoName) v u ∧ PySem.W.kitOne K (.ref A_InvalidReading) u = some false := ⟨xva_InvalidReading, _, _, .own _, vk1_15⟩
  have xq_1_16 : XVal K A_InvalidReading ∧ ∃ v u, ClsD (.ref A_NoPlace) v u ∧ PySem.W.kitOne K (.ref A_InvalidReading) u = some false := ⟨xva_InvalidReading, _, _, .own _, vk1_16⟩
  have xq_1_17 : XVal K A_InvalidReading ∧ ∃ v u, ClsD (.ref A_NoPoint) v u ∧ PySem.W.kitOne K (.ref A_InvalidReading) u = some false := ⟨xva_InvalidReading, _, _, .own _, vk1_17⟩
  have xq_1_18 : XVal K A_InvalidReading ∧ ∃ v u, ClsD (.ref A_NoReading) v u ∧ PySem.W.kitOne K (.ref A_InvalidReading) u = some false := ⟨xva_InvalidReading, _, _, .own _, vk1_18⟩
  have xq_1_19 : XVal K A_InvalidReading ∧ ∃ v u, ClsD (.ref A_NothingToUndo) v u ∧ PySem.W.kitOne K (.ref A_InvalidReading) u = some false := ⟨xva_InvalidReading, _, _, .own _, vk1_19⟩
  have xq_1_20 : XVal K A_InvalidReading ∧ ∃ v u, ClsD (.ref A_SizeError) v u ∧ PySem.W.kitOne K (.ref A_InvalidReading) u = some false := ⟨xva_InvalidReading, _, _, .own _, vk1_20⟩
  have xq_1_21 : XVal K A_InvalidReading ∧ ∃ v u, ClsD (.ref A_UnknownCommand) v u ∧ PySem.W.kitOne K (.ref A_InvalidReading) u = some false := ⟨xva_InvalidReading, _, _, .own _, vk1_21⟩
  have xq_1_22 : XVal K A_InvalidReading ∧ ∃ v u, ClsD (.ty "ValueError") v u ∧ PySem.W.kitOne K (.ref A_InvalidReading) u = some true := ⟨xva_InvalidReading, _, _, .ty _, vk1_22⟩
  have xq_2_0 : XVal K A_InvalidBound ∧ ∃ v u, ClsD (.ref A_Contradiction) v u ∧ PySem.W.kitOne K (.ref A_InvalidBound) u = some false := ⟨xva_InvalidBound, _, _, .own _, vk2_0⟩
  have xq_2_1 : XVal K A_InvalidBound ∧ ∃ v u, ClsD (.ref A_DifferentModes) v u ∧ PySem.W.kitOne K (.ref A_InvalidBound) u = some false := ⟨xva_InvalidBound, _, _, .own _, vk2_1⟩
  have xq_2_2 : XVal K A_InvalidBound ∧ ∃ v u, ClsD (.ref A_Finished) v u ∧ PySem.W.kitOne K (.ref A_InvalidBound) u = some false := ⟨xva_InvalidBound, _, _, .own _, vk2_2⟩
  have xq_2_3 : XVal K A_InvalidBound ∧ ∃ v u, ClsD (.ref A_InvalidAccount) v u ∧ PySem.W.kitOne K (.ref A_InvalidBound) u = some false := ⟨xva_InvalidBound, _, _, .own _, vk2_3⟩
  have xq_2_4 : XVal K A_InvalidBound ∧ ∃ v u, ClsD (.ref A_InvalidBound) v u ∧ PySem.W.kitOne K (.ref A_InvalidBound) u = some true := ⟨xva_InvalidBound, _, _, .own _, vk2_4⟩
  have xq_2_5 : XVal K A_InvalidBound ∧ ∃ v u, ClsD (.ref A_InvalidCapacity) v u ∧ PySem.W.kitOne K (.ref A_InvalidBound) u = some false := ⟨xva_InvalidBound, _, _, .own _, vk2_5⟩
  have xq_2_6 : XVal K A_InvalidBound ∧ ∃ v u, ClsD (.ref A_InvalidMode) v u ∧ PySem.W.kitOne K (.ref A_InvalidBound) u = some false := ⟨xva_InvalidBound, _, _, .own _, vk2_6⟩
  have xq_2_7 : XVal K A_InvalidBound ∧ ∃ v u, ClsD (.ref A_InvalidNumber) v u ∧ PySem.W.kitOne K (.ref A_InvalidBound) u = some false := ⟨xva_InvalidBound, _, _, .own _, vk2_7⟩
  have xq_2_8 : XVal K A_InvalidBound ∧ ∃ v u, ClsD (.ref A_InvalidProgram) v u ∧ PySem.W.kitOne K (.ref A_InvalidBound) u = some false := ⟨xva_InvalidBound, _, _, .own _, vk2_8⟩
  have xq_2_9 : XVal K A_InvalidBound ∧ ∃ v u, ClsD (.ref A_InvalidReading) v u ∧ PySem.W.kitOne K (.ref A_InvalidBound) u = some false := ⟨xva_InvalidBound, _, _, .own _, vk2_9⟩
  have xq_2_10 : XVal K A_InvalidBound ∧ ∃ v u, ClsD (.ref A_InvalidRow) v u ∧ PySem.W.kitOne K (.ref A_InvalidBound) u = some false := ⟨xva_InvalidBound, _, _, .own _, vk2_10⟩
  have xq_2_11 : XVal K A_InvalidBound ∧ ∃ v u, ClsD (.ref A_InvalidTable) v u ∧ PySem.W.kitOne K (.ref A_InvalidBound) u = some false := ⟨xva_InvalidBound, _, _, .own _, vk2_11⟩
  have xq_2_12 : XVal K A_InvalidBound ∧ ∃ v u, ClsD (.ref A_InvalidText) v u ∧ PySem.W.kitOne K (.ref A_InvalidBound) u = some false := ⟨xva_InvalidBound, _, _, .own _, vk2_12⟩
  have xq_2_13 : XVal K A_InvalidBound ∧ ∃ v u, ClsD (.ty "LookupError") v u ∧ PySem.W.kitOne K (.ref A_InvalidBound) u = some false := ⟨xva_InvalidBound, _, _, .ty _, vk2_13⟩
  have xq_2_14 : XVal K A_InvalidBound ∧ ∃ v u, ClsD (.ref A_Lossy) v u ∧ PySem.W.kitOne K (.ref A_InvalidBound) u = some false := ⟨xva_InvalidBound, _, _, .own _, vk2_14⟩
  have xq_2_15 : XVal K A_InvalidBound ∧ ∃ v u, ClsD (.ref A_NoName) v u ∧ PySem.W.kitOne K (.ref A_InvalidBound) u = some false := ⟨xva_InvalidBound, _, _, .own _, vk2_15⟩
  have xq_2_16 : XVal K A_InvalidBound ∧ ∃ v u, ClsD (.ref A_NoPlace) v u ∧ PySem.W.kitOne K (.ref A_InvalidBound) u = some false := ⟨xva_InvalidBound, _, _, .own _, vk2_16⟩
  have xq_2_17 : XVal K A_InvalidBound ∧ ∃ v u, ClsD (.ref A_NoPoint) v u ∧ PySem.W.kitOne K (.ref A_InvalidBound) u = some false := ⟨xva_InvalidBound, _, _, .own _, vk2_17⟩
  have xq_2_18 : XVal K A_InvalidBound ∧ ∃ v u, ClsD (.ref A_NoReading) v u ∧ PySem.W.kitOne K (.ref A_InvalidBound) u = some false := ⟨xva_InvalidBound, _, _, .own _, vk2_18⟩
  have xq_2_19 : XVal K A_InvalidBound ∧ ∃ v u, ClsD (.ref A_NothingToUndo) v u ∧ PySem.W.kitOne K (.ref A_InvalidBound) u = some false := ⟨xva_InvalidBound, _, _, .own _, vk2_19⟩
  have xq_2_20 : XVal K A_InvalidBound ∧ ∃ v u, ClsD (.ref A_SizeError) v u ∧ PySem.W.kitOne K (.ref A_InvalidBound) u = some false := ⟨xva_InvalidBound, _, _, .own _, vk2_20⟩
  have xq_2_21 : XVal K A_InvalidBound ∧ ∃ v u, ClsD (.ref A_UnknownCommand) v u ∧ PySem.W.kitOne K (.ref A_InvalidBound) u = some false := ⟨xva_InvalidBound, _, _, .own _, vk2_21⟩
  have xq_2_22 : XVal K A_InvalidBound ∧ ∃ v u, ClsD (.ty "ValueError") v u ∧ PySem.W.kitOne K (.ref A_InvalidBound) u = some true := ⟨xva_InvalidBound, _, _, .ty _, vk2_22⟩
  have xq_3_0 : XVal K A_Contradiction ∧ ∃ v u, ClsD (.ref A_Contradiction) v u ∧ PySem.W.kitOne K (.ref A_Contradiction) u = some true := ⟨xva_Contradiction, _, _, .own _, vk3_0⟩
  have xq_3_1 : XVal K A_Contradiction ∧ ∃ v u, ClsD (.ref A_DifferentModes) v u ∧ PySem.W.kitOne K (.ref A_Contradiction) u = some false := ⟨xva_Contradiction, _, _, .own _, vk3_1⟩
  have xq_3_2 : XVal K A_Contradiction ∧ ∃ v u, ClsD (.ref A_Finished) v u ∧ PySem.W.kitOne K (.ref A_Contradiction) u = some false := ⟨xva_Contradiction, _, _, .own _, vk3_2⟩
  have xq_3_3 : XVal K A_Contradiction ∧ ∃ v u, ClsD (.ref A_InvalidAccount) v u ∧ PySem.W.kitOne K (.ref A_Contradiction) u = some false := ⟨xva_Contradiction, _, _, .own _, vk3_3⟩
  have xq_3_4 : XVal K A_Contradiction ∧ ∃ v u, ClsD (.ref A_InvalidBound) v u ∧ PySem.W.kitOne K (.ref A_Contradiction) u = some false := ⟨xva_Contradiction, _, _, .own _, vk3_4⟩
  have xq_3_5 : XVal K A_Contradiction ∧ ∃ v u, ClsD (.ref A_InvalidCapacity) v u ∧ PySem.W.kitOne K (.ref A_Contradiction) u = some false := ⟨xva_Contradiction, _, _, .own _, vk3_5⟩
  have xq_3_6 : XVal K A_Contradiction ∧ ∃ v u, ClsD (.ref A_InvalidMode) v u ∧ PySem.W.kitOne K (.ref A_Contradiction) u = some false := ⟨xva_Contradiction, _, _, .own _, vk3_6⟩
  have xq_3_7 : XVal K A_Contradiction ∧ ∃ v u, ClsD (.ref A_InvalidNumber) v u ∧ PySem.W.kitOne K (.ref A_Contradiction) u = some false := ⟨xva_Contradiction, _, _, .own _, vk3_7⟩
  have xq_3_8 : XVal K A_Contradiction ∧ ∃ v u, ClsD (.ref A_InvalidProgram) v u ∧ PySem.W.kitOne K (.ref A_Contradiction) u = some false := ⟨xva_Contradiction, _, _, .own _, vk3_8⟩
  have xq_3_9 : XVal K A_Contradiction ∧ ∃ v u, ClsD (.ref A_InvalidReading) v u ∧ PySem.W.kitOne K (.ref A_Contradiction) u = some false := ⟨xva_Contradiction, _, _, .own _, vk3_9⟩
  have xq_3_10 : XVal K A_Contradiction ∧ ∃ v u, ClsD (.ref A_InvalidRow) v u ∧ PySem.W.kitOne K (.ref A_Contradiction) u = some false := ⟨xva_Contradiction, _, _, .own _, vk3_10⟩
  have xq_3_11 : XVal K A_Contradiction ∧ ∃ v u, ClsD (.ref A_InvalidTable) v u ∧ PySem.W.kitOne K (.ref A_Contradiction) u = some false := ⟨xva_Contradiction, _, _, .own _, vk3_11⟩
  have xq_3_12 : XVal K A_Contradiction ∧ ∃ v u, ClsD (.ref A_InvalidText) v u ∧ PySem.W.kitOne K (.ref A_Contradiction) u = some false := ⟨xva_Contradiction, _, _, .own _, vk3_12⟩
  have xq_3_13 : XVal K A_Contradiction ∧ ∃ v u, ClsD (.ty "LookupError") v u ∧ PySem.W.kitOne K (.ref A_Contradiction) u = some false := ⟨xva_Contradiction, _, _, .ty _, vk3_13⟩
  have xq_3_14 : XVal K A_Contradiction ∧ ∃ v u, ClsD (.ref A_Lossy) v u ∧ PySem.W.kitOne K (.ref A_Contradiction) u = some false := ⟨xva_Contradiction, _, _, .own _, vk3_14⟩
  have xq_3_15 : XVal K A_Contradiction ∧ ∃ v u, ClsD (.ref A_NoName) v u ∧ PySem.W.kitOne K (.ref A_Contradiction) u = some false := ⟨xva_Contradiction, _, _, .own _, vk3_15⟩
  have xq_3_16 : XVal K A_Contradiction ∧ ∃ v u, ClsD (.ref A_NoPlace) v u ∧ PySem.W.kitOne K (.ref A_Contradiction) u = some false := ⟨xva_Contradiction, _, _, .own _, vk3_16⟩
  have xq_3_17 : XVal K A_Contradiction ∧ ∃ v u, ClsD (.ref A_NoPoint) v u ∧ PySem.W.kitOne K (.ref A_Contradiction) u = some false := ⟨xva_Contradiction, _, _, .own _, vk3_17⟩
  have xq_3_18 : XVal K A_Contradiction ∧ ∃ v u, ClsD (.ref A_NoReading) v u ∧ PySem.W.kitOne K (.ref A_Contradiction) u = some false := ⟨xva_Contradiction, _, _, .own _, vk3_18⟩
  have xq_3_19 : XVal K A_Contradiction ∧ ∃ v u, ClsD (.ref A_NothingToUndo) v u ∧ PySem.W.kitOne K (.ref A_Contradiction) u = some false := ⟨xva_Contradiction, _, _, .own _, vk3_19⟩
  have xq_3_20 : XVal K A_Contradiction ∧ ∃ v u, ClsD (.ref A_SizeError) v u ∧ PySem.W.kitOne K (.ref A_Contradiction) u = some false := ⟨xva_Contradiction, _, _, .own _, vk3_20⟩
  have xq_3_21 : XVal K A_Contradiction ∧ ∃ v u, ClsD (.ref A_UnknownCommand) v u ∧ PySem.W.kitOne K (.ref A_Contradiction) u = some false := ⟨xva_Contradiction, _, _, .own _, vk3_21⟩
  have xq_3_22 : XVal K A_Contradiction ∧ ∃ v u, ClsD (.ty "ValueError") v u ∧ PySem.W.kitOne K (.ref A_Contradiction) u = some true := ⟨xva_Contradiction, _, _, .ty _, vk3_22⟩
  have xq_4_0 : XVal K A_NoReading ∧ ∃ v u, ClsD (.ref A_Contradiction) v u ∧ PySem.W.kitOne K (.ref A_NoReading) u = some false := ⟨xva_NoReading, _, _, .own _, vk4_0⟩
  have xq_4_1 : XVal K A_NoReading ∧ ∃ v u, ClsD (.ref A_DifferentModes) v u ∧ PySem.W.kitOne K (.ref A_NoReading) u = some false := ⟨xva_NoReading, _, _, .own _, vk4_1⟩
  have xq_4_2 : XVal K A_NoReading ∧ ∃ v u, ClsD (.ref A_Finished) v u ∧ PySem.W.kitOne K (.ref A_NoReading) u = some false := ⟨xva_NoReading, _, _, .own _, vk4_2⟩
  have xq_4_3 : XVal K A_NoReading ∧ ∃ v u, ClsD (.ref A_InvalidAccount) v u ∧ PySem.W.kitOne K (.ref A_NoReading) u = some false := ⟨xva_NoReading, _, _, .own _, vk4_3⟩
  have xq_4_4 : XVal K A_NoReading ∧ ∃ v u, ClsD (.ref A_InvalidBound) v u ∧ PySem.W.kitOne K (.ref A_NoReading) u = some false := ⟨xva_NoReading, _, _, .own _, vk4_4⟩
  have xq_4_5 : XVal K A_NoReading ∧ ∃ v u, ClsD (.ref A_InvalidCapacity) v u ∧ PySem.W.kitOne K (.ref A_NoReading) u = some false := ⟨xva_NoReading, _, _, .own _, vk4_5⟩
  have xq_4_6 : XVal K A_NoReading ∧ ∃ v u, ClsD (.ref A_InvalidMode) v u ∧ PySem.W.kitOne K (.ref A_NoReading) u = some false := ⟨xva_NoReading, _, _, .own _, vk4_6⟩
  have xq_4_7 : XVal K A_NoReading ∧ ∃ v u, ClsD (.ref A_InvalidNumber) v u ∧ PySem.W.kitOne K (.ref A_NoReading) u = some false := ⟨xva_NoReading, _, _, .own _, vk4_7⟩
  have xq_4_8 : XVal K A_NoReading ∧ ∃ v u, ClsD (.ref A_InvalidProgram) v u ∧ PySem.W.kitOne K (.ref A_NoReading) u = some false := ⟨xva_NoReading, _, _, .own _, vk4_8⟩
  have xq_4_9 : XVal K A_NoReading ∧ ∃ v u, ClsD (.ref A_InvalidReading) v u ∧ PySem.W.kitOne K (.ref A_NoReading) u = some false := ⟨xva_NoReading, _, _, .own _, vk4_9⟩
  have xq_4_10 : XVal K A_NoReading ∧ ∃ v u, ClsD (.ref A_InvalidRow) v u ∧ PySem.W.kitOne K (.ref A_NoReading) u = some false := ⟨xva_NoReading, _, _, .own _, vk4_10⟩
  have xq_4_11 : XVal K A_NoReading ∧ ∃ v u, ClsD (.ref A_InvalidTable) v u ∧ PySem.W.kitOne K (.ref A_NoReading) u = some false := ⟨xva_NoReading, _, _, .own _, vk4_11⟩
  have xq_4_12 : XVal K A_NoReading ∧ ∃ v u, ClsD (.ref A_InvalidText) v u ∧ PySem.W.kitOne K (.ref A_NoReading) u = some false := ⟨xva_NoReading, _, _, .own _, vk4_12⟩
  have xq_4_13 : XVal K A_NoReading ∧ ∃ v u, ClsD (.ty "LookupError") v u ∧ PySem.W.kitOne K (.ref A_NoReading) u = some true := ⟨xva_NoReading, _, _, .ty _, vk4_13⟩
  have xq_4_14 : XVal K A_NoReading ∧ ∃ v u, ClsD (.ref A_Lossy) v u ∧ PySem.W.kitOne K (.ref A_NoReading) u = some false := ⟨xva_NoReading, _, _, .own _, vk4_14⟩
  have xq_4_15 : XVal K A_NoReading ∧ ∃ v u, ClsD (.ref A_NoName) v u ∧ PySem.W.kitOne K (.ref A_NoReading) u = some false := ⟨xva_NoReading, _, _, .own _, vk4_15⟩
  have xq_4_16 : XVal K A_NoReading ∧ ∃ v u, ClsD (.ref A_NoPlace) v u ∧ PySem.W.kitOne K (.ref A_NoReading) u = some false := ⟨xva_NoReading, _, _, .own _, vk4_16⟩
  have xq_4_17 : XVal K A_NoReading ∧ ∃ v u, ClsD (.ref A_NoPoint) v u ∧ PySem.W.kitOne K (.ref A_NoReading) u = some false := ⟨xva_NoReading, _, _, .own _, vk4_17⟩
  have xq_4_18 : XVal K A_NoReading ∧ ∃ v u, ClsD (.ref A_NoReading) v u ∧ PySem.W.kitOne K (.ref A_NoReading) u = some true := ⟨xva_NoReading, _, _, .own _, vk4_18⟩
  have xq_4_19 : XVal K A_NoReading ∧ ∃ v u, ClsD (.ref A_NothingToUndo) v u ∧ PySem.W.kitOne K (.ref A_NoReading) u = some false := ⟨xva_NoReading, _, _, .own _, vk4_19⟩
  have xq_4_20 : XVal K A_NoReading ∧ ∃ v u, ClsD (.ref A_SizeError) v u ∧ PySem.W.kitOne K (.ref A_NoReading) u = some false := ⟨xva_NoReading, _, _, .own _, vk4_20⟩
  have xq_4_21 : XVal K A_NoReading ∧ ∃ v u, ClsD (.ref A_UnknownCommand) v u ∧ PySem.W.kitOne K (.ref A_NoReading) u = some false := ⟨xva_NoReading, _, _, .own _, vk4_21⟩
  have xq_4_22 : XVal K A_NoReading ∧ ∃ v u, ClsD (.ty "ValueError") v u ∧ PySem.W.kitOne K (.ref A_NoReading) u = some false := ⟨xva_NoReading, _, _, .ty _, vk4_22⟩
  have xq_5_0 : XVal K A_NothingToUndo ∧ ∃ v u, ClsD (.ref A_Contradiction) v u ∧ PySem.W.kitOne K (.ref A_NothingToUndo) u = some false := ⟨xva_NothingToUndo, _, _, .own _, vk5_0⟩
  have xq_5_1 : XVal K A_NothingToUndo ∧ ∃ v u, ClsD (.ref A_DifferentModes) v u ∧ PySem.W.kitOne K (.ref A_NothingToUndo) u = some false := ⟨xva_NothingToUndo, _, _, .own _, vk5_1⟩
  have xq_5_2 : XVal K A_NothingToUndo ∧ ∃ v u, ClsD (.ref A_Finished) v u ∧ PySem.W.kitOne K (.ref A_NothingToUndo) u = some false := ⟨xva_NothingToUndo, _, _, .own _, vk5_2⟩
  have xq_5_3 : XVal K A_NothingToUndo ∧ ∃ v u, ClsD (.ref A_InvalidAccount) v u ∧ PySem.W.kitOne K (.ref A_NothingToUndo) u = some false := ⟨xva_NothingToUndo, _, _, .own _, vk5_3⟩
  have xq_5_4 : XVal K A_NothingToUndo ∧ ∃ v u, ClsD (.ref A_InvalidBound) v u ∧ PySem.W.kitOne K (.ref A_NothingToUndo) u = some false := ⟨xva_NothingToUndo, _, _, .own _, vk5_4⟩
  have xq_5_5 : XVal K A_NothingToUndo ∧ ∃ v u, ClsD (.ref A_InvalidCapacity) v u ∧ PySem.W.kitOne K (.ref A_NothingToUndo) u = some false := ⟨xva_NothingToUndo, _, _, .own _, vk5_5⟩
  have xq_5_6 : XVal K A_NothingToUndo ∧ ∃ v u, ClsD (.ref A_InvalidMode) v u ∧ PySem.W.kitOne K (.ref A_NothingToUndo) u = some false := ⟨xva_NothingToUndo, _, _, .own _, vk5_6⟩
  have xq_5_7 : XVal K A_NothingToUndo ∧ ∃ v u, ClsD (.ref A_InvalidNumber) v u ∧ PySem.W.kitOne K (.ref A_NothingToUndo) u = some false := ⟨xva_NothingToUndo, _, _, .own _, vk5_7⟩
  have xq_5_8 : XVal K A_NothingToUndo ∧ ∃ v u, ClsD (.ref A_InvalidProgram) v u ∧ PySem.W.kitOne K (.ref A_NothingToUndo) u = some false := ⟨xva_NothingToUndo, _, _, .own _, vk5_8⟩
  have xq_5_9 : XVal K A_NothingToUndo ∧ ∃ v u, ClsD (.ref A_InvalidReading) v u ∧ PySem.W.kitOne K (.ref A_NothingToUndo) u = some false := ⟨xva_NothingToUndo, _, _, .own _, vk5_9⟩
  have xq_5_10 : XVal K A_NothingToUndo ∧ ∃ v u, ClsD (.ref A_InvalidRow) v u ∧ PySem.W.kitOne K (.ref A_NothingToUndo) u = some false := ⟨xva_NothingToUndo, _, _, .own _, vk5_10⟩
  have xq_5_11 : XVal K A_NothingToUndo ∧ ∃ v u, ClsD (.ref A_InvalidTable) v u ∧ PySem.W.kitOne K (.ref A_NothingToUndo) u = some false := ⟨xva_NothingToUndo, _, _, .own _, vk5_11⟩
  have xq_5_12 : XVal K A_NothingToUndo ∧ ∃ v u, ClsD (.ref A_InvalidText) v u ∧ PySem.W.kitOne K (.ref A_NothingToUndo) u = some false := ⟨xva_NothingToUndo, _, _, .own _, vk5_12⟩
  have xq_5_13 : XVal K A_NothingToUndo ∧ ∃ v u, ClsD (.ty "LookupError") v u ∧ PySem.W.kitOne K (.ref A_NothingToUndo) u = some true := ⟨xva_NothingToUndo, _, _, .ty _, vk5_13⟩
  have xq_5_14 : XVal K A_NothingToUndo ∧ ∃ v u, ClsD (.ref A_Lossy) v u ∧ PySem.W.kitOne K (.ref A_NothingToUndo) u = some false := ⟨xva_NothingToUndo, _, _, .own _, vk5_14⟩
  have xq_5_15 : XVal K A_NothingToUndo ∧ ∃ v u, ClsD (.ref A_NoName) v u ∧ PySem.W.kitOne K (.ref A_NothingToUndo) u = some false := ⟨xva_NothingToUndo, _, _, .own _, vk5_15⟩
  have xq_5_16 : XVal K A_NothingToUndo ∧ ∃ v u, ClsD (.ref A_NoPlace) v u ∧ PySem.W.kitOne K (.ref A_NothingToUndo) u = some false := ⟨xva_NothingToUndo, _, _, .own _, vk5_16⟩
  have xq_5_17 : XVal K A_NothingToUndo ∧ ∃ v u, ClsD (.ref A_NoPoint) v u ∧ PySem.W.kitOne K (.ref A_NothingToUndo) u = some false := ⟨xva_NothingToUndo, _, _, .own _, vk5_17⟩
  have xq_5_18 : XVal K A_NothingToUndo ∧ ∃ v u, ClsD (.ref A_NoReading) v u ∧ PySem.W.kitOne K (.ref A_NothingToUndo) u = some false := ⟨xva_NothingToUndo, _, _, .own _, vk5_18⟩
  have xq_5_19 : XVal K A_NothingToUndo ∧ ∃ v u, ClsD (.ref A_NothingToUndo) v u ∧ PySem.W.kitOne K (.ref A_NothingToUndo) u = some true := ⟨xva_NothingToUndo, _, _, .own _, vk5_19⟩
  have xq_5_20 : XVal K A_NothingToUndo ∧ ∃ v u, ClsD (.ref A_SizeError) v u ∧ PySem.W.kitOne K (.ref A_NothingToUndo) u = some false := ⟨xva_NothingToUndo, _, _, .own _, vk5_20⟩
  have xq_5_21 : XVal K A_NothingToUndo ∧ ∃ v u, ClsD (.ref A_UnknownCommand) v u ∧ PySem.W.kitOne K (.ref A_NothingToUndo) u = some false := ⟨xva_NothingToUndo, _, _, .own _, vk5_21⟩
  have xq_5_22 : XVal K A_NothingToUndo ∧ ∃ v u, ClsD (.ty "ValueError") v u ∧ PySem.W.kitOne K (.ref A_NothingToUndo) u = some false := ⟨xva_NothingToUndo, _, _, .ty _, vk5_22⟩
  have T : Txt K mg z := ⟨⟨pg0, hd0, po0, sa0⟩, nf0, nf1, nf2, cst_ref (PySem.W.mg_of X G xa1), cst_ref (PySem.W.mg_of X G xa2), cst_ref (PySem.W.mg_of X G xa4), cst_ref (PySem.W.mg_of X G xa5), cst_ref (PySem.W.mg_of X G xa6), cst_ref (PySem.W.mg_of X G xa7), cst_ref (PySem.W.mg_of X G xa8), cst_ref (PySem.W.mg_of X G xa9), cst_ref (PySem.W.mg_of X G xa10), cst_ref (PySem.W.mg_of X G xa11), cst_ref (PySem.W.mg_of X G xa12), cst_ref (PySem.W.mg_of X G xa13), cst_ref (PySem.W.mg_of X G xa14), cst_ref (PySem.W.mg_of X G xa15), cst_ref (PySem.W.mg_of X G xa16), cst_ref (PySem.W.mg_of X G xa17), cst_ref (PySem.W.mg_of X G xa18), cst_ref (PySem.W.mg_of X G xa19), cst_ref (PySem.W.mg_of X G xa20), cst_ref (PySem.W.mg_of X G xa21), cst_ref (PySem.W.mg_of X G xa22), PySem.W.mg_of X G xa3, PySem.W.mg_of X G xa21, PySem.W.mg_of X G xa0, (fun C hC => by (try unfold errs at hC); (try unfold xtab at hC); simp only [List.mem_cons, List.not_mem_nil, or_false] at hC; rcases hC with rfl | rfl | rfl | rfl | rfl | rfl <;> first | exact exm3_of (PySem.W.exm_ref wb0 wd0 wy0 ve0_0) (PySem.W.exm_ref wb1 wd1 wy1 ve0_1) (PySem.W.exm_ref wb2 wd2 wy2 ve0_2) rfl | exact exm3_of (PySem.W.exm_ref wb0 wd0 wy0 ve1_0) (PySem.W.exm_ref wb1 wd1 wy1 ve1_1) (PySem.W.exm_ref wb2 wd2 wy2 ve1_2) rfl | exact exm3_of (PySem.W.exm_ref wb0 wd0 wy0 ve2_0) (PySem.W.exm_ref wb1 wd1 wy1 ve2_1) (PySem.W.exm_ref wb2 wd2 wy2 ve2_2) rfl | exact exm3_of (PySem.W.exm_ref wb0 wd0 wy0 ve3_0) (PySem.W.exm_ref wb1 wd1 wy1 ve3_1) (PySem.W.exm_ref wb2 wd2 wy2 ve3_2) rfl | exact exm3_of (PySem.W.exm_ref wb0 wd0 wy0 ve4_0) (PySem.W.exm_ref wb1 wd1 wy1 ve4_1) (PySem.W.exm_ref wb2 wd2 wy2 ve4_2) rfl | exact exm3_of (PySem.W.exm_ref wb0 wd0 wy0 ve5_0) (PySem.W.exm_ref wb1 wd1 wy1 ve5_1) (PySem.W.exm_ref wb2 wd2 wy2 ve5_2) rfl), (fun C hC => by (try unfold errs at hC); (try unfold xtab at hC); simp only [List.mem_cons, List.not_mem_nil, or_false] at hC; rcases hC with rfl | rfl | rfl | rfl | rfl | rfl | rfl | rfl | rfl | rfl | rfl | rfl | rfl | rfl | rfl | rfl | rfl | rfl | rfl | rfl | rfl | rfl | rfl | rfl | rfl | rfl | rfl | rfl | rfl | rfl | rfl | rfl | rfl | rfl | rfl | rfl | rfl | rfl | rfl | rfl | rfl | rfl | rfl | rfl | rfl | rfl | rfl | rfl | rfl | rfl | rfl | rfl | rfl | rfl | rfl | rfl | rfl | rfl | rfl | rfl | rfl | rfl | rfl | rfl | rfl | rfl | rfl | rfl | rfl | rfl | rfl | rfl | rfl | rfl | rfl | rfl | rfl | rfl | rfl | rfl | rfl | rfl | rfl | rfl | rfl | rfl | rfl | rfl | rfl | rfl | rfl | rfl | rfl | rfl | rfl | rfl | rfl | rfl | rfl | rfl | rfl | rfl | rfl | rfl | rfl | rfl | rfl | rfl | rfl | rfl | rfl | rfl | rfl | rfl | rfl | rfl | rfl | rfl | rfl | rfl | rfl | rfl | rfl | rfl | rfl | rfl | rfl | rfl | rfl | rfl | rfl | rfl | rfl | rfl | rfl | rfl | rfl | rfl <;> first | exact xq_0_0 | exact xq_0_1 | exact xq_0_2 | exact xq_0_3 | exact xq_0_4 | exact xq_0_5 | exact xq_0_6 | exact xq_0_7 | exact xq_0_8 | exact xq_0_9 | exact xq_0_10 | exact xq_0_11 | exact xq_0_12 | exact xq_0_13 | exact xq_0_14 | exact xq_0_15 | exact xq_0_16 | exact xq_0_17 | exact xq_0_18 | exact xq_0_19 | exact xq_0_20 | exact xq_0_21 | exact xq_0_22 | exact xq_1_0 | exact xq_1_1 | exact xq_1_2 | exact xq_1_3 | exact xq_1_4 | exact xq_1_5 | exact xq_1_6 | exact xq_1_7 | exact xq_1_8 | exact xq_1_9 | exact xq_1_10 | exact xq_1_11 | exact xq_1_12 | exact xq_1_13 | exact xq_1_14 | exact xq_1_15 | exact xq_1_16 | exact xq_1_17 | exact xq_1_18 | exact xq_1_19 | exact xq_1_20 | exact xq_1_21 | exact xq_1_22 | exact xq_2_0 | exact xq_2_1 | exact xq_2_2 | exact xq_2_3 | exact xq_2_4 | exact xq_2_5 | exact xq_2_6 | exact xq_2_7 | exact xq_2_8 | exact xq_2_9 | exact xq_2_10 | exact xq_2_11 | exact xq_2_12 | exact xq_2_13 | exact xq_2_14 | exact xq_2_15 | exact xq_2_16 | exact xq_2_17 | exact xq_2_18 | exact xq_2_19 | exact xq_2_20 | exact xq_2_21 | exact xq_2_22 | exact xq_3_0 | exact xq_3_1 | exact xq_3_2 | exact xq_3_3 | exact xq_3_4 | exact xq_3_5 | exact xq_3_6 | exact xq_3_7 | exact xq_3_8 | exact xq_3_9 | exact xq_3_10 | exact xq_3_11 | exact xq_3_12 | exact xq_3_13 | exact xq_3_14 | exact xq_3_15 | exact xq_3_16 | exact xq_3_17 | exact xq_3_18 | exact xq_3_19 | exact xq_3_20 | exact xq_3_21 | exact xq_3_22 | exact xq_4_0 | exact xq_4_1 | exact xq_4_2 | exact xq_4_3 | exact xq_4_4 | exact xq_4_5 | exact xq_4_6 | exact xq_4_7 | exact xq_4_8 | exact xq_4_9 | exact xq_4_10 | exact xq_4_11 | exact xq_4_12 | exact xq_4_13 | exact xq_4_14 | exact xq_4_15 | exact xq_4_16 | exact xq_4_17 | exact xq_4_18 | exact xq_4_19 | exact xq_4_20 | exact xq_4_21 | exact xq_4_22 | exact xq_5_0 | exact xq_5_1 | exact xq_5_2 | exact xq_5_3 | exact xq_5_4 | exact xq_5_5 | exact xq_5_6 | exact xq_5_7 | exact xq_5_8 | exact xq_5_9 | exact xq_5_10 | exact xq_5_11 | exact xq_5_12 | exact xq_5_13 | exact xq_5_14 | exact xq_5_15 | exact xq_5_16 | exact xq_5_17 | exact xq_5_18 | exact xq_5_19 | exact xq_5_20 | exact xq_5_21 | exact xq_5_22), (fun C hC => by (try unfold errs at hC); (try unfold xtab at hC); simp only [List.mem_cons, List.not_mem_nil, or_false] at hC; rcases hC with rfl <;> first | exact ⟨xva_NoReading, vf4_0⟩), (fun C hC => by (try unfold errs at hC); (try unfold xtab at hC); simp only [List.mem_cons, List.not_mem_nil, or_false] at hC; rcases hC with rfl <;> first | exact ⟨xva_NothingToUndo, vf5_0⟩), (fun C hC => by (try unfold errs at hC); (try unfold xtab at hC); simp only [List.mem_cons, List.not_mem_nil, or_false] at hC; rcases hC with rfl <;> first | exact ⟨xva_Contradiction, vf3_0⟩), (fun C hC => by (try unfold errs at hC); (try unfold xtab at hC); simp only [List.mem_cons, List.not_mem_nil, or_false] at hC; rcases hC with rfl <;> first | exact ⟨xva_Contradiction, vf3_1⟩), (fun C hC => by (try unfold errs at hC); (try unfold xtab at hC); simp only [List.mem_cons, List.not_mem_nil, or_false] at hC; rcases hC with rfl | rfl | rfl <;> first | exact ⟨xva_InvalidCapacity, vf0_0⟩ | exact ⟨xva_InvalidReading, vf1_0⟩ | exact ⟨xva_InvalidBound, vf2_0⟩), PySem.W.mg_none_of X G z0, PySem.W.mg_none_of X G z1, PySem.W.mg_none_of X G z2, PySem.W.mg_none_of X G z3, PySem.W.mg_none_of X G z4, PySem.W.mg_none_of X G z5, PySem.W.mg_none_of X G z6, PySem.W.mg_none_of X G z7, PySem.W.mg_none_of X G z8, PySem.W.mg_none_of X G z9, PySem.W.mg_none_of X G z10, PySem.W.mg_none_of X G z11, PySem.W.mg_none_of X G z12, PySem.W.mg_none_of X G z13, cst_int (PySem.W.mg_of X G g0), cst_int (PySem.W.mg_of X G g1)⟩
  have Fu0 := fun_mk (st := s_is_integer) l0 c0 k0
  have Fu1 := fun_mk (st := s_is_between) l1 c1 k1
  have Fu2 := fun_mk (st := s_common_divisor) l2 c2 k2
  have Fu3 := fun_mk (st := s_modulus_of) l3 c3 k3
  have Fu4 := fun_mk (st := s_shared) l4 c4 k4
  have Fu5 := fun_mk (st := s_do_agree) l5 c5 k5
  have Fu6 := fun_mk (st := s_need_capacity_meters) l6 c6 k6
  have Fu7 := fun_mk (st := s_need_bound) l7 c7 k7
  have Fu8 := fun_mk (st := s_Meter___init__) l8 c8 k8
  have Fu9 := fun_mk (st := s_Meter_readings) l9 c9 k9
  have Fu10 := fun_mk (st := s_Meter_most) l10 c10 k10
  have Fu11 := fun_mk (st := s_Meter_steps) l11 c11 k11
  have Fu12 := fun_mk (st := s_Meter_settle) l12 c12 k12
  have Fu13 := fun_mk (st := s_Meter_take) l13 c13 k13
  have Fu14 := fun_mk (st := s_Meter_add) l14 c14 k14
  have Fu15 := fun_mk (st := s_Meter___len__) l15 c15 k15
  have Fu16 := fun_mk (st := s_Meter___contains__) l16 c16 k16
  have Fu17 := fun_mk (st := s_Meter___getitem__) l17 c17 k17
  have Fu18 := fun_mk (st := s__law_pen) l18 c18 k18
  have Fu19 := fun_mk (st := s__law_draw) l19 c19 k19
  have Fu20 := fun_mk (st := s__law_divisor) l20 c20 k20
  have Fu21 := fun_mk (st := s__law_agree) l21 c21 k21
  have Fu22 := fun_mk (st := s__law_size) l22 c22 k22
  have Fu23 := fun_mk (st := s__law_source) l23 c23 k23
  have Fu24 := fun_mk (st := s__law_length) l24 c24 k24
  have Fu25 := fun_mk (st := s__law_reading) l25 c25 k25
  have Fu26 := fun_mk (st := s__law_fields) l26 c26 k26
  have Fu27 := fun_mk (st := s__law_heard) l27 c27 k27
  have Fu28 := fun_mk (st := s__law_odd) l28 c28 k28
  have Fu29 := fun_mk (st := s__law_added) l29 c29 k29
  have Fu30 := fun_mk (st := s__law_stands) l30 c30 k30
  have Fu31 := fun_mk (st := s_law) l31 c31 k31
  have Fu32 := fun_mk (st := s_Contradiction___init__) l32 c32 k32
  have Fu33 := fun_mk (st := s_InvalidBound___init__) l33 c33 k33
  have Fu34 := fun_mk (st := s_InvalidCapacity___init__) l34 c34 k34
  have Fu35 := fun_mk (st := s_InvalidReading___init__) l35 c35 k35
  have Fu36 := fun_mk (st := s_NoReading___init__) l36 c36 k36
  refine ⟨⟨PySem.W.fnOf "law" "law" (defArgs s_law) (defBody s_law) (defScope s_law) .none kV31 dc31 pm31 an31 (.ref cc0) ct31, S_law z, [("law", cc0, tp0, (("law" : Str) ++ ".<locals>." ++ "<lambda>")), ("_law_stands", cc1, tp1, (("_law_stands" : Str) ++ ".<locals>." ++ "<lambda>"))], fun s v => .of_eq rfl, ?_, fun js h hl ht => law_at z js h hl ⟨ht ("law", cc0, tp0, (("law" : Str) ++ ".<locals>." ++ "<lambda>")) (by simp), ht ("_law_stands", cc1, tp1, (("_law_stands" : Str) ++ ".<locals>." ++ "<lambda>")) (by simp)⟩, rd, fun base _ _ TBs => ?_⟩⟩
  · intro p hp
    simp only [List.mem_cons, List.not_mem_nil, or_false] at hp
    rcases hp with rfl | rfl
    · exact ⟨by simp, tabIn_of a31 l31 rfl ty0 rv0, tn0⟩
    · exact ⟨by simp, tabIn_of a30 l30 rfl ty1 rv1, tn1⟩
  have TB_law : LamX.TabB base mg cc0 z.t0 := TBs ("law", cc0, tp0, (("law" : Str) ++ ".<locals>." ++ "<lambda>")) (by simp)
  have TB__law_stands : LamX.TabB base mg cc1 z.t1 := TBs ("_law_stands", cc1, tp1, (("_law_stands" : Str) ++ ".<locals>." ++ "<lambda>")) (by simp)
  have FC_law := FunC.of Fu31 (cc := cc0) rfl
  have FC__law_stands := FunC.of Fu30 (cc := cc1) rfl
  have X_Contradiction : XMk l.prog w K mg base "Contradiction" z.Contradiction 1 ["first", "second"] := ⟨⟨f32, _, _, xi0, xj0, xinit2 (k := 0) Fu32 sc_Contradiction___init__ (by first | exact Or.inl rfl | exact Or.inr (Or.inl rfl)) (by first | exact Or.inl rfl | exact Or.inr (Or.inl rfl)) (by first | exact Or.inl rfl | exact Or.inr (Or.inl rfl)) rfl, Fu32.binds (ps := ["self", "first", "second"]) fun _ _ _ _ _ _ us hl => match us, hl with | [_, _, _], _ => rfl⟩, ⟨⟨_, _, _, _, _, _, _, _, _, _, _, _, _, _, _, _, _, _, _, PySem.F.excBase_ValueError, xl0, rx0, PySem.F.store_ValueError.passes, by decide⟩, xs0, xb0, xy0, xk0⟩, PySem.W.mg_of X G xa1, by intro f hf; simp only [List.mem_cons, List.not_mem_nil, or_false] at hf; rcases hf with rfl | rfl <;> first | exact xn0_0 | exact xn0_1, by decide⟩
  have X_InvalidBound : XMk l.prog w K mg base "InvalidBound" z.InvalidBound 1 ["value"] := ⟨⟨f33, _, _, xi1, xj1, xinit1 (k := 0) Fu33 sc_InvalidBound___init__ (by first | exact Or.inl rfl | exact Or.inr (Or.inl rfl)) (by first | exact Or.inl rfl | exact Or.inr (Or.inl rfl)) rfl, Fu33.binds (ps := ["self", "value"]) fun _ _ _ _ _ _ us hl => match us, hl with | [_, _], _ => rfl⟩, ⟨⟨_, _, _, _, _, _, _, _, _, _, _, _, _, _, _, _, _, _, _, PySem.F.excBase_ValueError, xl1, rx1, PySem.F.store_ValueError.passes, by decide⟩, xs1, xb1, xy1, xk1⟩, PySem.W.mg_of X G xa6, by intro f hf; simp only [List.mem_cons, List.not_mem_nil, or_false] at hf; rcases hf with rfl <;> first | exact xn1_0, by decide⟩
  have X_InvalidCapacity : XMk l.prog w K mg base "InvalidCapacity" z.InvalidCapacity 1 ["value"] := ⟨⟨f34, _, _, xi2, xj2, xinit1 (k := 0) Fu34 sc_InvalidCapacity___init__ (by first | exact Or.inl rfl | exact Or.inr (Or.inl rfl)) (by first | exact Or.inl rfl | exact Or.inr (Or.inl rfl)) rfl, Fu34.binds (ps := ["self", "value"]) fun _ _ _ _ _ _ us hl => match us, hl with | [_, _], _ => rfl⟩, ⟨⟨_, _, _, _, _, _, _, _, _, _, _, _, _, _, _, _, _, _, _, PySem.F.excBase_ValueError, xl2, rx2, PySem.F.store_ValueError.passes, by decide⟩, xs2, xb2, xy2, xk2⟩, PySem.W.mg_of X G xa7, by intro f hf; simp only [List.mem_cons, List.not_mem_nil, or_false] at hf; rcases hf with rfl <;> first | exact xn2_0, by decide⟩
  have X_InvalidReading : XMk l.prog w K mg base "InvalidReading" z.InvalidReading 1 ["value"] := ⟨⟨f35, _, _, xi3, xj3, xinit1 (k := 0) Fu35 sc_InvalidReading___init__ (by first | exact Or.inl rfl | exact Or.inr (Or.inl rfl)) (by first | exact Or.inl rfl | exact Or.inr (Or.inl rfl)) rfl, Fu35.binds (ps := ["self", "value"]) fun _ _ _ _ _ _ us hl => match us, hl with | [_, _], _ => rfl⟩, ⟨⟨_, _, _, _, _, _, _, _, _, _, _, _, _, _, _, _, _, _, _, PySem.F.excBase_ValueError, xl3, rx3, PySem.F.store_ValueError.passes, by decide⟩, xs3, xb3, xy3, xk3⟩, PySem.W.mg_of X G xa11, by intro f hf; simp only [List.mem_cons, List.not_mem_nil, or_false] at hf; rcases hf with rfl <;> first | exact xn3_0, by decide⟩
  have X_NoReading : XMk l.prog w K mg base "NoReading" z.NoReading 1 ["asked"] := ⟨⟨f36, _, _, xi4, xj4, xinit1 (k := 0) Fu36 sc_NoReading___init__ (by first | exact Or.inl rfl | exact Or.inr (Or.inl rfl)) (by first | exact Or.inl rfl | exact Or.inr (Or.inl rfl)) rfl, Fu36.binds (ps := ["self", "asked"]) fun _ _ _ _ _ _ us hl => match us, hl with | [_, _], _ => rfl⟩, ⟨⟨_, _, _, _, _, _, _, _, _, _, _, _, _, _, _, _, _, _, _, PySem.F.excBase_LookupError, xl4, rx4, PySem.F.store_LookupError.passes, by decide⟩, xs4, xb4, xy4, xk4⟩, PySem.W.mg_of X G xa19, by intro f hf; simp only [List.mem_cons, List.not_mem_nil, or_false] at hf; rcases hf with rfl <;> first | exact xn4_0, by decide⟩
  have G0 : FnG false l.prog w K mg base 1 f0 _ ["value"] (FM.S_is_integer z) := fng_of Fu0 sc_is_integer (FM.len_is_integer z) (FM.mo_is_integer z) (fun cdv A outer s H E c => d_is_integer T  cdv A outer s H E c) (FM.p_is_integer z)
  have C_is_integer : Cal false l.prog w K mg base "is_integer" 1 1 [] (fun ds _ => ds) (FM.S_is_integer z) := ⟨⟨f0, _, _, PySem.W.mg_of X G a0, k0, G0, (Bnd.plain fun us hl => match us, hl with | [_], _ => rfl)⟩⟩
  have G2 : FnG false l.prog w K mg base 1 f2 _ ["one", "other"] (FM.S_common_divisor z) := fng_of Fu2 sc_common_divisor (FM.len_common_divisor z) (FM.mo_common_divisor z) (fun cdv A outer s H E c => d_common_divisor T  cdv A outer s H E c) (FM.p_common_divisor z)
  have C_common_divisor : Cal false l.prog w K mg base "common_divisor" 1 2 [] (fun ds _ => ds) (FM.S_common_divisor z) := ⟨⟨f2, _, _, PySem.W.mg_of X G a2, k2, G2, (Bnd.plain fun us hl => match us, hl with | [_, _], _ => rfl)⟩⟩
  have G3 : FnG false l.prog w K mg base 1 f3 _ ["capacity", "most"] (FM.S_modulus_of z) := fng_of Fu3 sc_modulus_of (FM.len_modulus_of z) (FM.mo_modulus_of z) (fun cdv A outer s H E c => d_modulus_of T  cdv A outer s H E c) (FM.p_modulus_of z)
  have C_modulus_of : Cal false l.prog w K mg base "modulus_of" 1 2 [] (fun ds _ => ds) (FM.S_modulus_of z) := ⟨⟨f3, _, _, PySem.W.mg_of X G a3, k3, G3, (Bnd.plain fun us hl => match us, hl with | [_, _], _ => rfl)⟩⟩
  have G9 : FnG false l.prog w K mg base 1 f9 _ ["self"] (FM.S_Meter_readings z) := fng_of Fu9 sc_Meter_readings (FM.len_Meter_readings z) (FM.mo_Meter_readings z) (fun cdv A outer s H E c => d_Meter_readings T  cdv A outer s H E c) (FM.p_Meter_readings z)
  have R_Meter_readings : PrpC l.prog w K mg base z.Meter "readings" 1 (FM.S_Meter_readings z) := ⟨T.k_Meter, p9, f9, _, _, ⟨a9_Meter, pa9, pb9, ⟨_, pc9⟩⟩, G9, Fu9.binds (ps := ["self"]) fun _ _ _ _ _ _ us hl => match us, hl with | [_], _ => rfl⟩
  have G10 : FnG false l.prog w K mg base 1 f10 _ ["self"] (FM.S_Meter_most z) := fng_of Fu10 sc_Meter_most (FM.len_Meter_most z) (FM.mo_Meter_most z) (fun cdv A outer s H E c => d_Meter_most T  cdv A outer s H E c) (FM.p_Meter_most z)
  have R_Meter_most : PrpC l.prog w K mg base z.Meter "most" 1 (FM.S_Meter_most z) := ⟨T.k_Meter, p10, f10, _, _, ⟨a10_Meter, pa10, pb10, ⟨_, pc10⟩⟩, G10, Fu10.binds (ps := ["self"]) fun _ _ _ _ _ _ us hl => match us, hl with | [_], _ => rfl⟩
  have G11 : FnG false l.prog w K mg base 1 f11 _ ["self"] (FM.S_Meter_steps z) := fng_of Fu11 sc_Meter_steps (FM.len_Meter_steps z) (FM.mo_Meter_steps z) (fun cdv A outer s H E c => d_Meter_steps T  cdv A outer s H E c) (FM.p_Meter_steps z)
  have R_Meter_steps : PrpC l.prog w K mg base z.Meter "steps" 1 (FM.S_Meter_steps z) := ⟨T.k_Meter, p11, f11, _, _, ⟨a11_Meter, pa11, pb11, ⟨_, pc11⟩⟩, G11, Fu11.binds (ps := ["self"]) fun _ _ _ _ _ _ us hl => match us, hl with | [_], _ => rfl⟩
  have G12 : FnG false l.prog w K mg base 1 f12 _ ["self", "readings", "most"] (FM.S_Meter_settle z) := fng_of Fu12 sc_Meter_settle (FM.len_Meter_settle z) (FM.mo_Meter_settle z) (fun cdv A outer s H E c => d_Meter_settle T  cdv A outer s H E c) (FM.p_Meter_settle z)
  have R_Meter_settle : MetC l.prog w K mg base z.Meter "settle" 1 (FM.S_Meter_settle z) := ⟨T.k_Meter, ⟨f12, ⟨a12_Meter, i12, k12⟩, frd_plain G12 (Bnd.plain fun us hl => match us, hl with | [_, _, _], _ => rfl)⟩, (FM.mo_Meter_settle z)⟩
  have G15 : FnG false l.prog w K mg base 1 f15 _ ["self"] (FM.S_Meter___len__ z) := fng_of Fu15 sc_Meter___len__ (FM.len_Meter___len__ z) (FM.mo_Meter___len__ z) (fun cdv A outer s H E c => d_Meter___len__ T  cdv A outer s H E c) (FM.p_Meter___len__ z)
  have LN_Meter : LenC l.prog w K mg base z.Meter 1 (FM.S_Meter___len__ z) := ⟨⟨f15, bo0, a15_Meter, i15, frd_plain G15 (Bnd.plain fun us hl => match us, hl with | [_], _ => rfl)⟩, (FM.mo_Meter___len__ z)⟩
  have G18 : FnG false l.prog w K mg base 1 f18 _ ["_law_script"] (FM.S__law_pen z) := fng_of Fu18 sc__law_pen (FM.len__law_pen z) (FM.mo__law_pen z) (fun cdv A outer s H E c => d__law_pen T  cdv A outer s H E c) (FM.p__law_pen z)
  have C__law_pen : Cal false l.prog w K mg base "_law_pen" 1 1 [] (fun ds _ => ds) (FM.S__law_pen z) := ⟨⟨f18, _, _, PySem.W.mg_of X G a18, k18, G18, (Bnd.plain fun us hl => match us, hl with | [_], _ => rfl)⟩⟩
  have G19 : FnG false l.prog w K mg base 1 f19 _ ["_law_pen_here", "_law_many"] (FM.S__law_draw z) := fng_of Fu19 sc__law_draw (FM.len__law_draw z) (FM.mo__law_draw z) (fun cdv A outer s H E c => d__law_draw T  cdv A outer s H E c) (FM.p__law_draw z)
  have C__law_draw : Cal false l.prog w K mg base "_law_draw" 1 2 [] (fun ds _ => ds) (FM.S__law_draw z) := ⟨⟨f19, _, _, PySem.W.mg_of X G a19, k19, G19, (Bnd.plain fun us hl => match us, hl with | [_, _], _ => rfl)⟩⟩
  have G20 : FnG false l.prog w K mg base 1 f20 _ ["_law_one", "_law_other"] (FM.S__law_divisor z) := fng_of Fu20 sc__law_divisor (FM.len__law_divisor z) (FM.mo__law_divisor z) (fun cdv A outer s H E c => d__law_divisor T  cdv A outer s H E c) (FM.p__law_divisor z)
  have C__law_divisor : Cal false l.prog w K mg base "_law_divisor" 1 2 [] (fun ds _ => ds) (FM.S__law_divisor z) := ⟨⟨f20, _, _, PySem.W.mg_of X G a20, k20, G20, (Bnd.plain fun us hl => match us, hl with | [_, _], _ => rfl)⟩⟩
  have G24 : FnG false l.prog w K mg base 1 f24 _ ["_law_source_here", "_law_size_here"] (FM.S__law_length z) := fng_of Fu24 sc__law_length (FM.len__law_length z) (FM.mo__law_length z) (fun cdv A outer s H E c => d__law_length T  cdv A outer s H E c) (FM.p__law_length z)
  have C__law_length : Cal false l.prog w K mg base "_law_length" 1 2 [] (fun ds _ => ds) (FM.S__law_length z) := ⟨⟨f24, _, _, PySem.W.mg_of X G a24, k24, G24, (Bnd.plain fun us hl => match us, hl with | [_, _], _ => rfl)⟩⟩
  have G26 : FnG false l.prog w K mg base 1 f26 _ ["_law_caught", "_law_at"] (FM.S__law_fields z) := fng_of Fu26 sc__law_fields (FM.len__law_fields z) (FM.mo__law_fields z) (fun cdv A outer s H E c => d__law_fields T  cdv A outer s H E c) (FM.p__law_fields z)
  have C__law_fields : Cal false l.prog w K mg base "_law_fields" 1 2 [] (fun ds _ => ds) (FM.S__law_fields z) := ⟨⟨f26, _, _, PySem.W.mg_of X G a26, k26, G26, (Bnd.plain fun us hl => match us, hl with | [_, _], _ => rfl)⟩⟩
  have G1 : FnG false l.prog w K mg base 2 f1 _ ["value", "least", "most"] (FM.S_is_between z) := fng_of Fu1 sc_is_between (FM.len_is_between z) (FM.mo_is_between z) (fun cdv A outer s H E c => d_is_between T C_is_integer cdv A outer s H E c) (FM.p_is_between z)
  have C_is_between : Cal false l.prog w K mg base "is_between" 2 3 [] (fun ds _ => ds) (FM.S_is_between z) := ⟨⟨f1, _, _, PySem.W.mg_of X G a1, k1, G1, (Bnd.plain fun us hl => match us, hl with | [_, _, _], _ => rfl)⟩⟩
  have G4 : FnG false l.prog w K mg base 2 f4 _ ["capacity", "other", "most"] (FM.S_shared z) := fng_of Fu4 sc_shared (FM.len_shared z) (FM.mo_shared z) (fun cdv A outer s H E c => d_shared T C_common_divisor C_modulus_of cdv A outer s H E c) (FM.p_shared z)
  have C_shared : Cal false l.prog w K mg base "shared" 2 3 [] (fun ds _ => ds) (FM.S_shared z) := ⟨⟨f4, _, _, PySem.W.mg_of X G a4, k4, G4, (Bnd.plain fun us hl => match us, hl with | [_, _, _], _ => rfl)⟩⟩
  have G16 : FnG false l.prog w K mg base 2 f16 _ ["self", "x"] (FM.S_Meter___contains__ z) := fng_of Fu16 sc_Meter___contains__ (FM.len_Meter___contains__ z) (FM.mo_Meter___contains__ z) (fun cdv A outer s H E c => d_Meter___contains__ T C_is_integer cdv A outer s H E c) (FM.p_Meter___contains__ z)
  have IN_Meter : InC l.prog w K mg base z.Meter 2 (FM.S_Meter___contains__ z) := ⟨⟨f16, a16_Meter, i16, frd_plain G16 (Bnd.plain fun us hl => match us, hl with | [_, _], _ => rfl)⟩, (FM.mo_Meter___contains__ z)⟩
  have G21 : FnG false l.prog w K mg base 2 f21 _ ["_law_first", "_law_second", "_law_bound"] (FM.S__law_agree z) := fng_of Fu21 sc__law_agree (FM.len__law_agree z) (FM.mo__law_agree z) (fun cdv A outer s H E c => d__law_agree T C__law_divisor cdv A outer s H E c) (FM.p__law_agree z)
  have C__law_agree : Cal false l.prog w K mg base "_law_agree" 2 3 [] (fun ds _ => ds) (FM.S__law_agree z) := ⟨⟨f21, _, _, PySem.W.mg_of X G a21, k21, G21, (Bnd.plain fun us hl => match us, hl with | [_, _, _], _ => rfl)⟩⟩
  have G22 : FnG false l.prog w K mg base 2 f22 _ ["_law_pen_here"] (FM.S__law_size z) := fng_of Fu22 sc__law_size (FM.len__law_size z) (FM.mo__law_size z) (fun cdv A outer s H E c => d__law_size T C__law_draw cdv A outer s H E c) (FM.p__law_size z)
  have C__law_size : Cal false l.prog w K mg base "_law_size" 2 1 [] (fun ds _ => ds) (FM.S__law_size z) := ⟨⟨f22, _, _, PySem.W.mg_of X G a22, k22, G22, (Bnd.plain fun us hl => match us, hl with | [_], _ => rfl)⟩⟩
  have G23 : FnG false l.prog w K mg base 2 f23 _ ["_law_pen_here"] (FM.S__law_source z) := fng_of Fu23 sc__law_source (FM.len__law_source z) (FM.mo__law_source z) (fun cdv A outer s H E c => d__law_source T C__law_draw cdv A outer s H E c) (FM.p__law_source z)
  have C__law_source : Cal false l.prog w K mg base "_law_source" 2 1 [] (fun ds _ => ds) (FM.S__law_source z) := ⟨⟨f23, _, _, PySem.W.mg_of X G a23, k23, G23, (Bnd.plain fun us hl => match us, hl with | [_], _ => rfl)⟩⟩
  have H__law_heard : HCal l.prog w K mg base false "_law_heard" 1 (FM.S__law_heard z) := ⟨⟨f27, _, s__law_heard, N__law_heard, "_law_ask", FM.w__law_heard z, PySem.W.mg_of X G a27, Fu27, sc__law_heard, rfl, by first | exact Or.inl rfl | exact Or.inr (Or.inl rfl), by decide, by decide, fun s v => .of_eq rfl, fun d tl hm cdv A outer s H E c act => d__law_heard T C__law_fields d tl cdv A outer s H E c act, FM.p__law_heard z⟩, FM.mo__law_heard z⟩
  have G28 : FnG false l.prog w K mg base 2 f28 _ ["_law_pen_here"] (S__law_odd z) := fng_of Fu28 sc__law_odd (len__law_odd z) (mo__law_odd z) (fun cdv A outer s H E c => d__law_odd T C__law_draw cdv A outer s H E c) (p__law_odd z)
  have C__law_odd : Cal false l.prog w K mg base "_law_odd" 2 1 [] (fun ds _ => ds) (S__law_odd z) := ⟨⟨f28, _, _, PySem.W.mg_of X G a28, k28, G28, (Bnd.plain fun us hl => match us, hl with | [_], _ => rfl)⟩⟩
  have G5 : FnG false l.prog w K mg base 3 f5 _ ["one", "other", "most"] (FM.S_do_agree z) := fng_of Fu5 sc_do_agree (FM.len_do_agree z) (FM.mo_do_agree z) (fun cdv A outer s H E c => d_do_agree T C_shared cdv A outer s H E c) (FM.p_do_agree z)
  have C_do_agree : Cal false l.prog w K mg base "do_agree" 3 3 [] (fun ds _ => ds) (FM.S_do_agree z) := ⟨⟨f5, _, _, PySem.W.mg_of X G a5, k5, G5, (Bnd.plain fun us hl => match us, hl with | [_, _, _], _ => rfl)⟩⟩
  have G6 : FnG false l.prog w K mg base 3 f6 _ ["value"] (FM.S_need_capacity_meters z) := fng_of Fu6 sc_need_capacity_meters (FM.len_need_capacity_meters z) (FM.mo_need_capacity_meters z) (fun cdv A outer s H E c => d_need_capacity_meters T C_is_between X_InvalidCapacity cdv A outer s H E c) (FM.p_need_capacity_meters z)
  have C_need_capacity_meters : Cal false l.prog w K mg base "need_capacity_meters" 3 1 [] (fun ds _ => ds) (FM.S_need_capacity_meters z) := ⟨⟨f6, _, _, PySem.W.mg_of X G a6, k6, G6, (Bnd.plain fun us hl => match us, hl with | [_], _ => rfl)⟩⟩
  have G7 : FnG false l.prog w K mg base 3 f7 _ ["value"] (FM.S_need_bound z) := fng_of Fu7 sc_need_bound (FM.len_need_bound z) (FM.mo_need_bound z) (fun cdv A outer s H E c => d_need_bound T C_is_between X_InvalidBound cdv A outer s H E c) (FM.p_need_bound z)
  have C_need_bound : Cal false l.prog w K mg base "need_bound" 3 1 [] (fun ds _ => ds) (FM.S_need_bound z) := ⟨⟨f7, _, _, PySem.W.mg_of X G a7, k7, G7, (Bnd.plain fun us hl => match us, hl with | [_], _ => rfl)⟩⟩
  have G17 : FnG false l.prog w K mg base 3 f17 _ ["self", "at"] (FM.S_Meter___getitem__ z) := fng_of Fu17 sc_Meter___getitem__ (FM.len_Meter___getitem__ z) (FM.mo_Meter___getitem__ z) (fun cdv A outer s H E c => d_Meter___getitem__ T C_is_integer X_NoReading cdv A outer s H E c) (FM.p_Meter___getitem__ z)
  have R_Meter___getitem__ : IxC l.prog w K mg base z.Meter 3 (FM.S_Meter___getitem__ z) := ⟨⟨f17, a17_Meter, j17, i17, frd_plain G17 (Bnd.plain fun us hl => match us, hl with | [_, _], _ => rfl)⟩, (FM.mo_Meter___getitem__ z)⟩
  have G25 : FnG false l.prog w K mg base 3 f25 _ ["_law_pen_here", "_law_source_here"] (FM.S__law_reading z) := fng_of Fu25 sc__law_reading (FM.len__law_reading z) (FM.mo__law_reading z) (fun cdv A outer s H E c => d__law_reading T C__law_draw C__law_length C__law_size cdv A outer s H E c) (FM.p__law_reading z)
  have C__law_reading : Cal false l.prog w K mg base "_law_reading" 3 2 [] (fun ds _ => ds) (FM.S__law_reading z) := ⟨⟨f25, _, _, PySem.W.mg_of X G a25, k25, G25, (Bnd.plain fun us hl => match us, hl with | [_, _], _ => rfl)⟩⟩
  have G29 : FnG false l.prog w K mg base 3 f29 _ ["_law_kept", "_law_bound", "_law_size_here", "_law_worth"] (S__law_added z) := fng_of Fu29 sc__law_added (len__law_added z) (mo__law_added z) (fun cdv A outer s H E c => d__law_added T C__law_agree cdv A outer s H E c) (p__law_added z)
  have C__law_added : Cal false l.prog w K mg base "_law_added" 3 4 [] (fun ds _ => ds) (S__law_added z) := ⟨⟨f29, _, _, PySem.W.mg_of X G a29, k29, G29, (Bnd.plain fun us hl => match us, hl with | [_, _, _, _], _ => rfl)⟩⟩
  have G8 : FnG false l.prog w K mg base 4 f8 _ ["self", "most"] (FM.S_Meter___init__ z) := fng_of Fu8 sc_Meter___init__ (FM.len_Meter___init__ z) (FM.mo_Meter___init__ z) (fun cdv A outer s H E c => d_Meter___init__ T C_need_bound cdv A outer s H E c) (FM.p_Meter___init__ z)
  have MM_Meter_0_ : MakMC l.prog w K mg base "Meter" z.Meter 4 0 [] (pickE [.inl 0, .inr .non]) (FM.S_Meter___init__ z) := ⟨⟨f8, _, _, ⟨mk0, a8_Meter, i8, kc0⟩, G8, (Bnd.dflt (d := .non) (v := .non) _ [some 0, none] e8_0 rfl (fun _ => .non) rfl (by decide) fun us ws h1 h2 => match us, ws, h1, h2 with | [_], [], _, _ => ⟨_, _, _, _, _, _, rfl, rfl, rfl⟩)⟩, (FM.mo_Meter___init__ z), PySem.W.mg_of X G aC0⟩
  have MM_Meter_0_most : MakMC l.prog w K mg base "Meter" z.Meter 4 0 ["most"] (pickD [0, 1]) (FM.S_Meter___init__ z) := ⟨⟨f8, _, _, ⟨mk0, a8_Meter, i8, kc0⟩, G8, Bnd.pick [0, 1] (by decide) fun us ws h1 h2 => match us, ws, h1, h2 with | [_], [_], _, _ => rfl⟩, (FM.mo_Meter___init__ z), PySem.W.mg_of X G aC0⟩
  have G13 : FnG false l.prog w K mg base 4 f13 _ ["self", "capacity", "length"] (FM.S_Meter_take z) := fng_of Fu13 sc_Meter_take (FM.len_Meter_take z) (FM.mo_Meter_take z) (fun cdv A outer s H E c => d_Meter_take T C_do_agree IN_Meter R_Meter_settle X_Contradiction cdv A outer s H E c) (FM.p_Meter_take z)
  have R_Meter_take : MetC l.prog w K mg base z.Meter "take" 4 (FM.S_Meter_take z) := ⟨T.k_Meter, ⟨f13, ⟨a13_Meter, i13, k13⟩, frd_plain G13 (Bnd.plain fun us hl => match us, hl with | [_, _, _], _ => rfl)⟩, (FM.mo_Meter_take z)⟩
  have G14 : FnG false l.prog w K mg base 5 f14 _ ["self", "capacity", "length"] (FM.S_Meter_add z) := fng_of Fu14 sc_Meter_add (FM.len_Meter_add z) (FM.mo_Meter_add z) (fun cdv A outer s H E c => d_Meter_add T C_is_between C_need_capacity_meters R_Meter_take X_InvalidReading cdv A outer s H E c) (FM.p_Meter_add z)
  have R_Meter_add : MetC l.prog w K mg base z.Meter "add" 5 (FM.S_Meter_add z) := ⟨T.k_Meter, ⟨f14, ⟨a14_Meter, i14, k14⟩, frd_plain G14 (Bnd.plain fun us hl => match us, hl with | [_, _, _], _ => rfl)⟩, (FM.mo_Meter_add z)⟩
  have RK_Meter_add_length_capacity : MetKC l.prog w K mg base z.Meter "add" 5 ["length", "capacity"] (pickD [0, 2, 1]) (FM.S_Meter_add z) := ⟨T.k_Meter, f14, _, _, ⟨a14_Meter, i14, k14⟩, G14, (Bnd.pick [0, 2, 1] (by decide) fun us ws h1 h2 => match us, ws, h1, h2 with | [_], [_, _], _, _ => rfl)⟩
  have G30 : FnG true l.prog w K mg base 7 f30 _ ["_law_pen_here", "_law_gauge", "_law_kept", "_law_many", "_law_bound"] (S__law_stands z) := fng_ofC FC__law_stands sc__law_stands (len__law_stands z) (mo__law_stands z) (fun A outer s H E c => d__law_stands T C__law_draw C__law_odd IN_Meter R_Meter___getitem__ LN_Meter R_Meter_most R_Meter_readings R_Meter_steps H__law_heard TB__law_stands A outer s H E c) (p__law_stands z)
  have C__law_stands : Cal true l.prog w K mg base "_law_stands" 7 5 [] (fun ds _ => ds) (S__law_stands z) := ⟨⟨f30, _, _, PySem.W.mg_of X G a30, k30, G30, (Bnd.plain fun us hl => match us, hl with | [_, _, _, _, _], _ => rfl)⟩⟩
  have G31 : FnG true l.prog w K mg base 8 fa _ ["_law_script"] (S_law z) := fng_ofC FC_law sc_law (len_law z) (mo_law z) (fun A outer s H E c => d_law T C__law_added C__law_draw C__law_odd C__law_pen C__law_reading C__law_source C__law_stands MM_Meter_0_ MM_Meter_0_most R_Meter_add RK_Meter_add_length_capacity R_Meter_readings R_Meter_steps H__law_heard TB_law A outer s H E c) (p_law z)
  exact G31
theorem all_K {l : PySem.W.OpenLaw} {w : World} {K : PySem.W.Frag} {h : Heap} {mg : Str → Option Value} {fa : Addr} (X : K.In h) (G : h.Ns mainGlobals mg) (hfa : mg "law" = some (.ref fa)) (c : Hx.SaX cks fns K)
    : LawT true l w K 8 63 "_law_script" mg fa ["law", "_law_stands"] :=
  all_mk X G hfa
    (of_decide_eq_true (c.t 0 0 rfl rfl : ck_0 K = true))
    (of_decide_eq_true (c.t 0 1 rfl rfl : ck_1 K = true))
    (of_decide_eq_true (c.t 0 2 rfl rfl : ck_2 K = true))
    (of_decide_eq_true (c.t 0 3 rfl rfl : ck_3 K = true))
    (of_decide_eq_true (c.t 0 4 rfl rfl : ck_4 K = true))
    (of_decide_eq_true (c.t 0 5 rfl rfl : ck_5 K = true))
    (of_decide_eq_true (c.t 0 6 rfl rfl : ck_6 K = true))
    (of_decide_eq_true (c.t 0 7 rfl rfl : ck_7 K = true))
    (of_decide_eq_true (c.t 0 8 rfl rfl : ck_8 K = true))
    (of_decide_eq_true (c.t 0 9 rfl rfl : ck_9 K = true))
    (of_decide_eq_true (c.t 0 10 rfl rfl : ck_10 K = true))
    (of_decide_eq_true (c.t 0 11 rfl rfl : ck_11 K = true))
    (of_decide_eq_true (c.t 0 12 rfl rfl : ck_12 K = true))
    (of_decide_eq_true (c.t 0 13 rfl rfl : ck_13 K = true))
    (of_decide_eq_true (c.t 0 14 rfl rfl : ck_14 K = true))
    (of_decide_eq_true (c.t 0 15 rfl rfl : ck_15 K = true))
    (of_decide_eq_true (c.t 0 16 rfl rfl : ck_16 K = true))
    (of_decide_eq_true (c.t 0 17 rfl rfl : ck_17 K = true))
    (of_decide_eq_true (c.t 0 18 rfl rfl : ck_18 K = true))
    (of_decide_eq_true (c.t 0 19 rfl rfl : ck_19 K = true))
    (of_decide_eq_true (c.t 0 20 rfl rfl : ck_20 K = true))
    (of_decide_eq_true (c.t 0 21 rfl rfl : ck_21 K = true))
    (of_decide_eq_true (c.t 0 22 rfl rfl : ck_22 K = true))
    (of_decide_eq_true (c.t 0 23 rfl rfl : ck_23 K = true))
    (of_decide_eq_true (c.t 0 24 rfl rfl : ck_24 K = true))
    (of_decide_eq_true (c.t 0 25 rfl rfl : ck_25 K = true))
    (of_decide_eq_true (c.t 0 26 rfl rfl : ck_26 K = true))
    (of_decide_eq_true (c.t 0 27 rfl rfl : ck_27 K = true))
    (of_decide_eq_true (c.t 0 28 rfl rfl : ck_28 K = true))
    (of_decide_eq_true (c.t 0 29 rfl rfl : ck_29 K = true))
    (of_decide_eq_true (c.t 0 30 rfl rfl : ck_30 K = true))
    (of_decide_eq_true (c.t 0 31 rfl rfl : ck_31 K = true))
    (of_decide_eq_true (c.t 0 32 rfl rfl : ck_32 K = true))
    (of_decide_eq_true (c.t 0 33 rfl rfl : ck_33 K = true))
    (of_decide_eq_true (c.t 0 34 rfl rfl : ck_34 K = true))
    (Hx.xc_at (c.t 0 35 rfl rfl : ck_35 K = true))
    (of_decide_eq_true (c.t 0 36 rfl rfl : ck_36 K = true))
    (of_decide_eq_true (c.t 0 37 rfl rfl : ck_37 K = true))
    (of_decide_eq_true (c.t 0 38 rfl rfl : ck_38 K = true))
    (of_decide_eq_true (c.t 0 39 rfl rfl : ck_39 K = true))
    (of_decide_eq_true (c.t 1 0 rfl rfl : ck_40 K = true))
    (of_decide_eq_true (c.t 1 1 rfl rfl : ck_41 K = true))
    (Hx.xc_at (c.t 1 2 rfl rfl : ck_42 K = true))
    (of_decide_eq_true (c.t 1 3 rfl rfl : ck_43 K = true))
    (of_decide_eq_true (c.t 1 4 rfl rfl : ck_44 K = true))
    (of_decide_eq_true (c.t 1 5 rfl rfl : ck_45 K = true))
    (of_decide_eq_true (c.t 1 6 rfl rfl : ck_46 K = true))
    (of_decide_eq_true (c.t 1 7 rfl rfl : ck_47 K = true))
    (Hx.xc_at (c.t 1 8 rfl rfl : ck_48 K = true))
    (of_decide_eq_true (c.t 1 9 rfl rfl : ck_49 K = true))
    (of_decide_eq_true (c.t 1 10 rfl rfl : ck_50 K = true))
    (of_decide_eq_true (c.t 1 11 rfl rfl : ck_51 K = true))
    (of_decide_eq_true (c.t 1 12 rfl rfl : ck_52 K = true))
    (of_decide_eq_true (c.t 1 13 rfl rfl : ck_53 K = true))
    (Hx.xc_at (c.t 1 14 rfl rfl : ck_54 K = true))
    (of_decide_eq_true (c.t 1 15 rfl rfl : ck_55 K = true))
    (of_decide_eq_true (c.t 1 16 rfl rfl : ck_56 K = true))
    (of_decide_eq_true (c.t 1 17 rfl rfl : ck_57 K = true))
    (of_decide_eq_true (c.t 1 18 rfl rfl : ck_58 K = true))
    (of_decide_eq_true (c.t 1 19 rfl rfl : ck_59 K = true))
    (Hx.xc_at (c.t 1 20 rfl rfl : ck_60 K = true))
    (of_decide_eq_true (c.t 1 21 rfl rfl : ck_61 K = true))
    (of_decide_eq_true (c.t 1 22 rfl rfl : ck_62 K = true))
    (of_decide_eq_true (c.t 1 23 rfl rfl : ck_63 K = true))
    (of_decide_eq_true (c.t 1 24 rfl rfl : ck_64 K = true))
    (of_decide_eq_true (c.t 1 25 rfl rfl : ck_65 K = true))
    (of_decide_eq_true (c.t 1 26 rfl rfl : ck_66 K = true))
    (of_decide_eq_true (c.t 1 27 rfl rfl : ck_67 K = true))
    (of_decide_eq_true (c.t 1 28 rfl rfl : ck_68 K = true))
    (of_decide_eq_true (c.t 1 29 rfl rfl : ck_69 K = true))
    (of_decide_eq_true (c.t 1 30 rfl rfl : ck_70 K = true))
    (of_decide_eq_true (c.t 1 31 rfl rfl : ck_71 K = true))
    (of_decide_eq_true (c.t 1 32 rfl rfl : ck_72 K = true))
    (of_decide_eq_true (c.t 1 33 rfl rfl : ck_73 K = true))
    (of_decide_eq_true (c.t 1 34 rfl rfl : ck_74 K = true))
    (of_decide_eq_true (c.t 1 35 rfl rfl : ck_75 K = true))
    (of_decide_eq_true (c.t 1 36 rfl rfl : ck_76 K = true))
    (of_decide_eq_true (c.t 1 37 rfl rfl : ck_77 K = true))
    (of_decide_eq_true (c.t 1 38 rfl rfl : ck_78 K = true))
    (of_decide_eq_true (c.t 1 39 rfl rfl : ck_79 K = true))
    (of_decide_eq_true (c.t 2 0 rfl rfl : ck_80 K = true))
    (of_decide_eq_true (c.t 2 1 rfl rfl : ck_81 K = true))
    (of_decide_eq_true (c.t 2 2 rfl rfl : ck_82 K = true))
    (of_decide_eq_true (c.t 2 3 rfl rfl : ck_83 K = true))
    (of_decide_eq_true (c.t 2 4 rfl rfl : ck_84 K = true))
    (of_decide_eq_true (c.t 2 5 rfl rfl : ck_85 K = true))
    (of_decide_eq_true (c.t 2 6 rfl rfl : ck_86 K = true))
    (of_decide_eq_true (c.t 2 7 rfl rfl : ck_87 K = true))
    (of_decide_eq_true (c.t 2 8 rfl rfl : ck_88 K = true))
    (of_decide_eq_true (c.t 2 9 rfl rfl : ck_89 K = true))
    (of_decide_eq_true (c.t 2 10 rfl rfl : ck_90 K = true))
    (of_decide_eq_true (c.t 2 11 rfl rfl : ck_91 K = true))
    (of_decide_eq_true (c.t 2 12 rfl rfl : ck_92 K = true))
    (of_decide_eq_true (c.t 2 13 rfl rfl : ck_93 K = true))
    (of_decide_eq_true (c.t 2 14 rfl rfl : ck_94 K = true))
    (of_decide_eq_true (c.t 2 15 rfl rfl : ck_95 K = true))
    (of_decide_eq_true (c.t 2 16 rfl rfl : ck_96 K = true))
    (of_decide_eq_true (c.t 2 17 rfl rfl : ck_97 K = true))
    (of_decide_eq_true (c.t 2 18 rfl rfl : ck_98 K = true))
    (of_decide_eq_true (c.t 2 19 rfl rfl : ck_99 K = true))
    (of_decide_eq_true (c.t 2 20 rfl rfl : ck_100 K = true))
    (of_decide_eq_true (c.t 2 21 rfl rfl : ck_101 K = true))
    (of_decide_eq_true (c.t 2 22 rfl rfl : ck_102 K = true))
    (of_decide_eq_true (c.t 2 23 rfl rfl : ck_103 K = true))
    (of_decide_eq_true (c.t 2 24 rfl rfl : ck_104 K = true))
    (of_decide_eq_true (c.t 2 25 rfl rfl : ck_105 K = true))
    (of_decide_eq_true (c.t 2 26 rfl rfl : ck_106 K = true))
    (of_decide_eq_true (c.t 2 27 rfl rfl : ck_107 K = true))
    (of_decide_eq_true (c.t 2 28 rfl rfl : ck_108 K = true))
    (of_decide_eq_true (c.t 2 29 rfl rfl : ck_109 K = true))
    (of_decide_eq_true (c.t 2 30 rfl rfl : ck_110 K = true))
    (of_decide_eq_true (c.t 2 31 rfl rfl : ck_111 K = true))
    (of_decide_eq_true (c.t 2 32 rfl rfl : ck_112 K = true))
    (of_decide_eq_true (c.t 2 33 rfl rfl : ck_113 K = true))
    (of_decide_eq_true (c.t 2 34 rfl rfl : ck_114 K = true))
    (of_decide_eq_true (c.t 2 35 rfl rfl : ck_115 K = true))
    (of_decide_eq_true (c.t 2 36 rfl rfl : ck_116 K = true))
    (of_decide_eq_true (c.t 2 37 rfl rfl : ck_117 K = true))
    (of_decide_eq_true (c.t 2 38 rfl rfl : ck_118 K = true))
    (of_decide_eq_true (c.t 2 39 rfl rfl : ck_119 K = true))
    (of_decide_eq_true (c.t 3 0 rfl rfl : ck_120 K = true))
    (of_decide_eq_true (c.t 3 1 rfl rfl : ck_121 K = true))
    (of_decide_eq_true (c.t 3 2 rfl rfl : ck_122 K = true))
    (of_decide_eq_true (c.t 3 3 rfl rfl : ck_123 K = true))
    (of_decide_eq_true (c.t 3 4 rfl rfl : ck_124 K = true))
    (of_decide_eq_true (c.t 3 5 rfl rfl : ck_125 K = true))
    (of_decide_eq_true (c.t 3 6 rfl rfl : ck_126 K = true))
    (of_decide_eq_true (c.t 3 7 rfl rfl : ck_127 K = true))
    (of_decide_eq_true (c.t 3 8 rfl rfl : ck_128 K = true))
    (of_decide_eq_true (c.t 3 9 rfl rfl : ck_129 K = true))
    (of_decide_eq_true (c.t 3 10 rfl rfl : ck_130 K = true))
    (of_decide_eq_true (c.t 3 11 rfl rfl : ck_131 K = true))
    (of_decide_eq_true (c.t 3 12 rfl rfl : ck_132 K = true))
    (of_decide_eq_true (c.t 3 13 rfl rfl : ck_133 K = true))
    (of_decide_eq_true (c.t 3 14 rfl rfl : ck_134 K = true))
    (of_decide_eq_true (c.t 3 15 rfl rfl : ck_135 K = true))
    (of_decide_eq_true (c.t 3 16 rfl rfl : ck_136 K = true))
    (of_decide_eq_true (c.t 3 17 rfl rfl : ck_137 K = true))
    (of_decide_eq_true (c.t 3 18 rfl rfl : ck_138 K = true))
    (of_decide_eq_true (c.t 3 19 rfl rfl : ck_139 K = true))
    (of_decide_eq_true (c.t 3 20 rfl rfl : ck_140 K = true))
    (of_decide_eq_true (c.t 3 21 rfl rfl : ck_141 K = true))
    (of_decide_eq_true (c.t 3 22 rfl rfl : ck_142 K = true))
    (of_decide_eq_true (c.t 3 23 rfl rfl : ck_143 K = true))
    (of_decide_eq_true (c.t 3 24 rfl rfl : ck_144 K = true))
    (of_decide_eq_true (c.t 3 25 rfl rfl : ck_145 K = true))
    (of_decide_eq_true (c.t 3 26 rfl rfl : ck_146 K = true))
    (of_decide_eq_true (c.t 3 27 rfl rfl : ck_147 K = true))
    (of_decide_eq_true (c.t 3 28 rfl rfl : ck_148 K = true))
    (of_decide_eq_true (c.t 3 29 rfl rfl : ck_149 K = true))
    (of_decide_eq_true (c.t 3 30 rfl rfl : ck_150 K = true))
    (of_decide_eq_true (c.t 3 31 rfl rfl : ck_151 K = true))
    (of_decide_eq_true (c.t 3 32 rfl rfl : ck_152 K = true))
    (of_decide_eq_true (c.t 3 33 rfl rfl : ck_153 K = true))
    (of_decide_eq_true (c.t 3 34 rfl rfl : ck_154 K = true))
    (of_decide_eq_true (c.t 3 35 rfl rfl : ck_155 K = true))
    (of_decide_eq_true (c.t 3 36 rfl rfl : ck_156 K = true))
    (of_decide_eq_true (c.t 3 37 rfl rfl : ck_157 K = true))
    (of_decide_eq_true (c.t 3 38 rfl rfl : ck_158 K = true))
    (of_decide_eq_true (c.t 3 39 rfl rfl : ck_159 K = true))
    (of_decide_eq_true (c.t 4 0 rfl rfl : ck_160 K = true))
    (of_decide_eq_true (c.t 4 1 rfl rfl : ck_161 K = true))
    (of_decide_eq_true (c.t 4 2 rfl rfl : ck_162 K = true))
    (of_decide_eq_true (c.t 4 3 rfl rfl : ck_163 K = true))
    (of_decide_eq_true (c.t 4 4 rfl rfl : ck_164 K = true))
    (of_decide_eq_true (c.t 4 5 rfl rfl : ck_165 K = true))
    (of_decide_eq_true (c.t 4 6 rfl rfl : ck_166 K = true))
    (of_decide_eq_true (c.t 4 7 rfl rfl : ck_167 K = true))
    (of_decide_eq_true (c.t 4 8 rfl rfl : ck_168 K = true))
    (of_decide_eq_true (c.t 4 9 rfl rfl : ck_169 K = true))
    (of_decide_eq_true (c.t 4 10 rfl rfl : ck_170 K = true))
    (of_decide_eq_true (c.t 4 11 rfl rfl : ck_171 K = true))
    (of_decide_eq_true (c.t 4 12 rfl rfl : ck_172 K = true))
    (of_decide_eq_true (c.t 4 13 rfl rfl : ck_173 K = true))
    (of_decide_eq_true (c.t 4 14 rfl rfl : ck_174 K = true))
    (of_decide_eq_true (c.t 4 15 rfl rfl : ck_175 K = true))
    (of_decide_eq_true (c.t 4 16 rfl rfl : ck_176 K = true))
    (of_decide_eq_true (c.t 4 17 rfl rfl : ck_177 K = true))
    (of_decide_eq_true (c.t 4 18 rfl rfl : ck_178 K = true))
    (of_decide_eq_true (c.t 4 19 rfl rfl : ck_179 K = true))
    (of_decide_eq_true (c.t 4 20 rfl rfl : ck_180 K = true))
    (of_decide_eq_true (c.t 4 21 rfl rfl : ck_181 K = true))
    (of_decide_eq_true (c.t 4 22 rfl rfl : ck_182 K = true))
    (of_decide_eq_true (c.t 4 23 rfl rfl : ck_183 K = true))
    (of_decide_eq_true (c.t 4 24 rfl rfl : ck_184 K = true))
    (of_decide_eq_true (c.t 4 25 rfl rfl : ck_185 K = true))
    (of_decide_eq_true (c.t 4 26 rfl rfl : ck_186 K = true))
    (of_decide_eq_true (c.t 4 27 rfl rfl : ck_187 K = true))
    (of_decide_eq_true (c.t 4 28 rfl rfl : ck_188 K = true))
    (of_decide_eq_true (c.t 4 29 rfl rfl : ck_189 K = true))
    (of_decide_eq_true (c.t 4 30 rfl rfl : ck_190 K = true))
    (of_decide_eq_true (c.t 4 31 rfl rfl : ck_191 K = true))
    (of_decide_eq_true (c.t 4 32 rfl rfl : ck_192 K = true))
    (of_decide_eq_true (c.t 4 33 rfl rfl : ck_193 K = true))
    (of_decide_eq_true (c.t 4 34 rfl rfl : ck_194 K = true))
    (of_decide_eq_true (c.t 4 35 rfl rfl : ck_195 K = true))
    (of_decide_eq_true (c.t 4 36 rfl rfl : ck_196 K = true))
    (of_decide_eq_true (c.t 4 37 rfl rfl : ck_197 K = true))
    (of_decide_eq_true (c.t 4 38 rfl rfl : ck_198 K = true))
    (of_decide_eq_true (c.t 4 39 rfl rfl : ck_199 K = true))
    (of_decide_eq_true (c.t 5 0 rfl rfl : ck_200 K = true))
    (of_decide_eq_true (c.t 5 1 rfl rfl : ck_201 K = true))
    (of_decide_eq_true (c.t 5 2 rfl rfl : ck_202 K = true))
    (of_decide_eq_true (c.t 5 3 rfl rfl : ck_203 K = true))
    (of_decide_eq_true (c.t 5 4 rfl rfl : ck_204 K = true))
    (of_decide_eq_true (c.t 5 5 rfl rfl : ck_205 K = true))
    (of_decide_eq_true (c.t 5 6 rfl rfl : ck_206 K = true))
    (of_decide_eq_true (c.t 5 7 rfl rfl : ck_207 K = true))
    (of_decide_eq_true (c.t 5 8 rfl rfl : ck_208 K = true))
    (of_decide_eq_true (c.t 5 9 rfl rfl : ck_209 K = true))
    (of_decide_eq_true (c.t 5 10 rfl rfl : ck_210 K = true))
    (of_decide_eq_true (c.t 5 11 rfl rfl : ck_211 K = true))
    (of_decide_eq_true (c.t 5 12 rfl rfl : ck_212 K = true))
    (of_decide_eq_true (c.t 5 13 rfl rfl : ck_213 K = true))
    (of_decide_eq_true (c.t 5 14 rfl rfl : ck_214 K = true))
    (of_decide_eq_true (c.t 5 15 rfl rfl : ck_215 K = true))
    (of_decide_eq_true (c.t 5 16 rfl rfl : ck_216 K = true))
    (of_decide_eq_true (c.t 5 17 rfl rfl : ck_217 K = true))
    (of_decide_eq_true (c.t 5 18 rfl rfl : ck_218 K = true))
    (of_decide_eq_true (c.t 5 19 rfl rfl : ck_219 K = true))
    (of_decide_eq_true (c.t 5 20 rfl rfl : ck_220 K = true))
    (of_decide_eq_true (c.t 5 21 rfl rfl : ck_221 K = true))
    (of_decide_eq_true (c.t 5 22 rfl rfl : ck_222 K = true))
    (of_decide_eq_true (c.t 5 23 rfl rfl : ck_223 K = true))
    (of_decide_eq_true (c.t 5 24 rfl rfl : ck_224 K = true))
    (of_decide_eq_true (c.t 5 25 rfl rfl : ck_225 K = true))
    (of_decide_eq_true (c.t 5 26 rfl rfl : ck_226 K = true))
    (of_decide_eq_true (c.t 5 27 rfl rfl : ck_227 K = true))
    (of_decide_eq_true (c.t 5 28 rfl rfl : ck_228 K = true))
    (of_decide_eq_true (c.t 5 29 rfl rfl : ck_229 K = true))
    (of_decide_eq_true (c.t 5 30 rfl rfl : ck_230 K = true))
    (of_decide_eq_true (c.t 5 31 rfl rfl : ck_231 K = true))
    (of_decide_eq_true (c.t 5 32 rfl rfl : ck_232 K = true))
    (of_decide_eq_true (c.t 5 33 rfl rfl : ck_233 K = true))
    (of_decide_eq_true (c.t 5 34 rfl rfl : ck_234 K = true))
    (of_decide_eq_true (c.t 5 35 rfl rfl : ck_235 K = true))
    (of_decide_eq_true (c.t 5 36 rfl rfl : ck_236 K = true))
    (of_decide_eq_true (c.t 5 37 rfl rfl : ck_237 K = true))
    (of_decide_eq_true (c.t 5 38 rfl rfl : ck_238 K = true))
    (of_decide_eq_true (c.t 5 39 rfl rfl : ck_239 K = true))
    (of_decide_eq_true (c.t 6 0 rfl rfl : ck_240 K = true))
    (of_decide_eq_true (c.t 6 1 rfl rfl : ck_241 K = true))
    (of_decide_eq_true (c.t 6 2 rfl rfl : ck_242 K = true))
    (of_decide_eq_true (c.t 6 3 rfl rfl : ck_243 K = true))
    (of_decide_eq_true (c.t 6 4 rfl rfl : ck_244 K = true))
    (of_decide_eq_true (c.t 6 5 rfl rfl : ck_245 K = true))
    (of_decide_eq_true (c.t 6 6 rfl rfl : ck_246 K = true))
    (of_decide_eq_true (c.t 6 7 rfl rfl : ck_247 K = true))
    (of_decide_eq_true (c.t 6 8 rfl rfl : ck_248 K = true))
    (of_decide_eq_true (c.t 6 9 rfl rfl : ck_249 K = true))
    (of_decide_eq_true (c.t 6 10 rfl rfl : ck_250 K = true))
    (of_decide_eq_true (c.t 6 11 rfl rfl : ck_251 K = true))
    (of_decide_eq_true (c.t 6 12 rfl rfl : ck_252 K = true))
    (of_decide_eq_true (c.t 6 13 rfl rfl : ck_253 K = true))
    (of_decide_eq_true (c.t 6 14 rfl rfl : ck_254 K = true))
    (of_decide_eq_true (c.t 6 15 rfl rfl : ck_255 K = true))
    (of_decide_eq_true (c.t 6 16 rfl rfl : ck_256 K = true))
    (of_decide_eq_true (c.t 6 17 rfl rfl : ck_257 K = true))
    (of_decide_eq_true (c.t 6 18 rfl rfl : ck_258 K = true))
    (of_decide_eq_true (c.t 6 19 rfl rfl : ck_259 K = true))
    (of_decide_eq_true (c.t 6 20 rfl rfl : ck_260 K = true))
    (of_decide_eq_true (c.t 6 21 rfl rfl : ck_261 K = true))
    (of_decide_eq_true (c.t 6 22 rfl rfl : ck_262 K = true))
    (of_decide_eq_true (c.t 6 23 rfl rfl : ck_263 K = true))
    (of_decide_eq_true (c.t 6 24 rfl rfl : ck_264 K = true))
    (of_decide_eq_true (c.t 6 25 rfl rfl : ck_265 K = true))
    (of_decide_eq_true (c.t 6 26 rfl rfl : ck_266 K = true))
    (of_decide_eq_true (c.t 6 27 rfl rfl : ck_267 K = true))
    (of_decide_eq_true (c.t 6 28 rfl rfl : ck_268 K = true))
    (of_decide_eq_true (c.t 6 29 rfl rfl : ck_269 K = true))
    (of_decide_eq_true (c.t 6 30 rfl rfl : ck_270 K = true))
    (of_decide_eq_true (c.t 6 31 rfl rfl : ck_271 K = true))
    (of_decide_eq_true (c.t 6 32 rfl rfl : ck_272 K = true))
    (of_decide_eq_true (c.t 6 33 rfl rfl : ck_273 K = true))
    (of_decide_eq_true (c.t 6 34 rfl rfl : ck_274 K = true))
    (of_decide_eq_true (c.t 6 35 rfl rfl : ck_275 K = true))
    (of_decide_eq_true (c.t 6 36 rfl rfl : ck_276 K = true))
    (of_decide_eq_true (c.t 6 37 rfl rfl : ck_277 K = true))
    (of_decide_eq_true (c.t 6 38 rfl rfl : ck_278 K = true))
    (of_decide_eq_true (c.t 6 39 rfl rfl : ck_279 K = true))
    (of_decide_eq_true (c.t 7 0 rfl rfl : ck_280 K = true))
    (of_decide_eq_true (c.t 7 1 rfl rfl : ck_281 K = true))
    (of_decide_eq_true (c.t 7 2 rfl rfl : ck_282 K = true))
    (of_decide_eq_true (c.t 7 3 rfl rfl : ck_283 K = true))
    (of_decide_eq_true (c.t 7 4 rfl rfl : ck_284 K = true))
    (of_decide_eq_true (c.t 7 5 rfl rfl : ck_285 K = true))
    (of_decide_eq_true (c.t 7 6 rfl rfl : ck_286 K = true))
    (c.f 0 (d := fn_0) rfl)
    (of_decide_eq_true (c.t 7 7 rfl rfl : ck_287 K = true))
    (of_decide_eq_true (c.t 7 8 rfl rfl : ck_288 K = true))
    (of_decide_eq_true (c.t 7 9 rfl rfl : ck_289 K = true))
    (c.f 1 (d := fn_1) rfl)
    (of_decide_eq_true (c.t 7 10 rfl rfl : ck_290 K = true))
    (of_decide_eq_true (c.t 7 11 rfl rfl : ck_291 K = true))
    (of_decide_eq_true (c.t 7 12 rfl rfl : ck_292 K = true))
    (c.f 2 (d := fn_2) rfl)
    (of_decide_eq_true (c.t 7 13 rfl rfl : ck_293 K = true))
    (of_decide_eq_true (c.t 7 14 rfl rfl : ck_294 K = true))
    (of_decide_eq_true (c.t 7 15 rfl rfl : ck_295 K = true))
    (c.f 3 (d := fn_3) rfl)
    (of_decide_eq_true (c.t 7 16 rfl rfl : ck_296 K = true))
    (of_decide_eq_true (c.t 7 17 rfl rfl : ck_297 K = true))
    (of_decide_eq_true (c.t 7 18 rfl rfl : ck_298 K = true))
    (c.f 4 (d := fn_4) rfl)
    (of_decide_eq_true (c.t 7 19 rfl rfl : ck_299 K = true))
    (of_decide_eq_true (c.t 7 20 rfl rfl : ck_300 K = true))
    (of_decide_eq_true (c.t 7 21 rfl rfl : ck_301 K = true))
    (c.f 5 (d := fn_5) rfl)
    (of_decide_eq_true (c.t 7 22 rfl rfl : ck_302 K = true))
    (of_decide_eq_true (c.t 7 23 rfl rfl : ck_303 K = true))
    (of_decide_eq_true (c.t 7 24 rfl rfl : ck_304 K = true))
    (c.f 6 (d := fn_6) rfl)
    (of_decide_eq_true (c.t 7 25 rfl rfl : ck_305 K = true))
    (of_decide_eq_true (c.t 7 26 rfl rfl : ck_306 K = true))
    (of_decide_eq_true (c.t 7 27 rfl rfl : ck_307 K = true))
    (c.f 7 (d := fn_7) rfl)
    (of_decide_eq_true (c.t 7 28 rfl rfl : ck_308 K = true))
    (of_decide_eq_true (c.t 7 29 rfl rfl : ck_309 K = true))
    (of_decide_eq_true (c.t 7 30 rfl rfl : ck_310 K = true))
    (of_decide_eq_true (c.t 7 31 rfl rfl : ck_311 K = true))
    (of_decide_eq_true (c.t 7 32 rfl rfl : ck_312 K = true))
    (Hx.fn_k (c.f 8 (d := fn_8) rfl) (of_decide_eq_true (c.t 7 33 rfl rfl : ck_313 K = true)))
    (of_decide_eq_true (c.t 7 34 rfl rfl : ck_314 K = true))
    (of_decide_eq_true (c.t 7 35 rfl rfl : ck_315 K = true))
    (of_decide_eq_true (c.t 7 36 rfl rfl : ck_316 K = true))
    (of_decide_eq_true (c.t 7 37 rfl rfl : ck_317 K = true))
    (of_decide_eq_true (c.t 7 38 rfl rfl : ck_318 K = true))
    (of_decide_eq_true (c.t 7 39 rfl rfl : ck_319 K = true))
    (of_decide_eq_true (c.t 8 0 rfl rfl : ck_320 K = true))
    (c.f 9 (d := fn_9) rfl)
    (of_decide_eq_true (c.t 8 1 rfl rfl : ck_321 K = true))
    (of_decide_eq_true (c.t 8 2 rfl rfl : ck_322 K = true))
    (of_decide_eq_true (c.t 8 3 rfl rfl : ck_323 K = true))
    (of_decide_eq_true (c.t 8 4 rfl rfl : ck_324 K = true))
    (of_decide_eq_true (c.t 8 5 rfl rfl : ck_325 K = true))
    (of_decide_eq_true (c.t 8 6 rfl rfl : ck_326 K = true))
    (c.f 10 (d := fn_10) rfl)
    (of_decide_eq_true (c.t 8 7 rfl rfl : ck_327 K = true))
    (of_decide_eq_true (c.t 8 8 rfl rfl : ck_328 K = true))
    (of_decide_eq_true (c.t 8 9 rfl rfl : ck_329 K = true))
    (of_decide_eq_true (c.t 8 10 rfl rfl : ck_330 K = true))
    (of_decide_eq_true (c.t 8 11 rfl rfl : ck_331 K = true))
    (of_decide_eq_true (c.t 8 12 rfl rfl : ck_332 K = true))
    (c.f 11 (d := fn_11) rfl)
    (of_decide_eq_true (c.t 8 13 rfl rfl : ck_333 K = true))
    (of_decide_eq_true (c.t 8 14 rfl rfl : ck_334 K = true))
    (of_decide_eq_true (c.t 8 15 rfl rfl : ck_335 K = true))
    (of_decide_eq_true (c.t 8 16 rfl rfl : ck_336 K = true))
    (of_decide_eq_true (c.t 8 17 rfl rfl : ck_337 K = true))
    (c.f 12 (d := fn_12) rfl)
    (of_decide_eq_true (c.t 8 18 rfl rfl : ck_338 K = true))
    (of_decide_eq_true (c.t 8 19 rfl rfl : ck_339 K = true))
    (of_decide_eq_true (c.t 8 20 rfl rfl : ck_340 K = true))
    (of_decide_eq_true (c.t 8 21 rfl rfl : ck_341 K = true))
    (of_decide_eq_true (c.t 8 22 rfl rfl : ck_342 K = true))
    (c.f 13 (d := fn_13) rfl)
    (of_decide_eq_true (c.t 8 23 rfl rfl : ck_343 K = true))
    (of_decide_eq_true (c.t 8 24 rfl rfl : ck_344 K = true))
    (of_decide_eq_true (c.t 8 25 rfl rfl : ck_345 K = true))
    (of_decide_eq_true (c.t 8 26 rfl rfl : ck_346 K = true))
    (of_decide_eq_true (c.t 8 27 rfl rfl : ck_347 K = true))
    (c.f 14 (d := fn_14) rfl)
    (of_decide_eq_true (c.t 8 28 rfl rfl : ck_348 K = true))
    (of_decide_eq_true (c.t 8 29 rfl rfl : ck_349 K = true))
    (of_decide_eq_true (c.t 8 30 rfl rfl : ck_350 K = true))
    (of_decide_eq_true (c.t 8 31 rfl rfl : ck_351 K = true))
    (of_decide_eq_true (c.t 8 32 rfl rfl : ck_352 K = true))
    (c.f 15 (d := fn_15) rfl)
    (of_decide_eq_true (c.t 8 33 rfl rfl : ck_353 K = true))
    (of_decide_eq_true (c.t 8 34 rfl rfl : ck_354 K = true))
    (of_decide_eq_true (c.t 8 35 rfl rfl : ck_355 K = true))
    (of_decide_eq_true (c.t 8 36 rfl rfl : ck_356 K = true))
    (of_decide_eq_true (c.t 8 37 rfl rfl : ck_357 K = true))
    (c.f 16 (d := fn_16) rfl)
    (of_decide_eq_true (c.t 8 38 rfl rfl : ck_358 K = true))
    (of_decide_eq_true (c.t 8 39 rfl rfl : ck_359 K = true))
    (of_decide_eq_true (c.t 9 0 rfl rfl : ck_360 K = true))
    (of_decide_eq_true (c.t 9 1 rfl rfl : ck_361 K = true))
    (of_decide_eq_true (c.t 9 2 rfl rfl : ck_362 K = true))
    (c.f 17 (d := fn_17) rfl)
    (of_decide_eq_true (c.t 9 3 rfl rfl : ck_363 K = true))
    (of_decide_eq_true (c.t 9 4 rfl rfl : ck_364 K = true))
    (of_decide_eq_true (c.t 9 5 rfl rfl : ck_365 K = true))
    (c.f 18 (d := fn_18) rfl)
    (of_decide_eq_true (c.t 9 6 rfl rfl : ck_366 K = true))
    (of_decide_eq_true (c.t 9 7 rfl rfl : ck_367 K = true))
    (of_decide_eq_true (c.t 9 8 rfl rfl : ck_368 K = true))
    (c.f 19 (d := fn_19) rfl)
    (of_decide_eq_true (c.t 9 9 rfl rfl : ck_369 K = true))
    (of_decide_eq_true (c.t 9 10 rfl rfl : ck_370 K = true))
    (of_decide_eq_true (c.t 9 11 rfl rfl : ck_371 K = true))
    (c.f 20 (d := fn_20) rfl)
    (of_decide_eq_true (c.t 9 12 rfl rfl : ck_372 K = true))
    (of_decide_eq_true (c.t 9 13 rfl rfl : ck_373 K = true))
    (of_decide_eq_true (c.t 9 14 rfl rfl : ck_374 K = true))
    (c.f 21 (d := fn_21) rfl)
    (of_decide_eq_true (c.t 9 15 rfl rfl : ck_375 K = true))
    (of_decide_eq_true (c.t 9 16 rfl rfl : ck_376 K = true))
    (of_decide_eq_true (c.t 9 17 rfl rfl : ck_377 K = true))
    (c.f 22 (d := fn_22) rfl)
    (of_decide_eq_true (c.t 9 18 rfl rfl : ck_378 K = true))
    (of_decide_eq_true (c.t 9 19 rfl rfl : ck_379 K = true))
    (of_decide_eq_true (c.t 9 20 rfl rfl : ck_380 K = true))
    (c.f 23 (d := fn_23) rfl)
    (of_decide_eq_true (c.t 9 21 rfl rfl : ck_381 K = true))
    (of_decide_eq_true (c.t 9 22 rfl rfl : ck_382 K = true))
    (of_decide_eq_true (c.t 9 23 rfl rfl : ck_383 K = true))
    (c.f 24 (d := fn_24) rfl)
    (of_decide_eq_true (c.t 9 24 rfl rfl : ck_384 K = true))
    (of_decide_eq_true (c.t 9 25 rfl rfl : ck_385 K = true))
    (of_decide_eq_true (c.t 9 26 rfl rfl : ck_386 K = true))
    (c.f 25 (d := fn_25) rfl)
    (of_decide_eq_true (c.t 9 27 rfl rfl : ck_387 K = true))
    (of_decide_eq_true (c.t 9 28 rfl rfl : ck_388 K = true))
    (of_decide_eq_true (c.t 9 29 rfl rfl : ck_389 K = true))
    (c.f 26 (d := fn_26) rfl)
    (of_decide_eq_true (c.t 9 30 rfl rfl : ck_390 K = true))
    (of_decide_eq_true (c.t 9 31 rfl rfl : ck_391 K = true))
    (of_decide_eq_true (c.t 9 32 rfl rfl : ck_392 K = true))
    (c.f 27 (d := fn_27) rfl)
    (of_decide_eq_true (c.t 9 33 rfl rfl : ck_393 K = true))
    (of_decide_eq_true (c.t 9 34 rfl rfl : ck_394 K = true))
    (of_decide_eq_true (c.t 9 35 rfl rfl : ck_395 K = true))
    (c.f 28 (d := fn_28) rfl)
    (of_decide_eq_true (c.t 9 36 rfl rfl : ck_396 K = true))
    (of_decide_eq_true (c.t 9 37 rfl rfl : ck_397 K = true))
    (of_decide_eq_true (c.t 9 38 rfl rfl : ck_398 K = true))
    (c.f 29 (d := fn_29) rfl)
    (of_decide_eq_true (c.t 9 39 rfl rfl : ck_399 K = true))
    (of_decide_eq_true (c.t 10 0 rfl rfl : ck_400 K = true))
    (of_decide_eq_true (c.t 10 1 rfl rfl : ck_401 K = true))
    (Hx.fn_c (c.f 30 (d := fn_30) rfl) (of_decide_eq_true (c.t 10 2 rfl rfl : ck_402 K = true)))
    (of_decide_eq_true (c.t 10 3 rfl rfl : ck_403 K = true))
    (of_decide_eq_true (c.t 10 4 rfl rfl : ck_404 K = true))
    (Hx.fl_at (c.t 10 5 rfl rfl : ck_405 K = true))
    (of_decide_eq_true (c.t 10 6 rfl rfl : ck_406 K = true))
    (Hx.no_at (c.t 10 7 rfl rfl : ck_407 K = true))
    (of_decide_eq_true (c.t 10 8 rfl rfl : ck_408 K = true))
    (Hx.fn_c (c.f 31 (d := fn_31) rfl) (of_decide_eq_true (c.t 10 9 rfl rfl : ck_409 K = true)))
    (of_decide_eq_true (c.t 10 10 rfl rfl : ck_410 K = true))
    (of_decide_eq_true (c.t 10 11 rfl rfl : ck_411 K = true))
    (Hx.fl_at (c.t 10 12 rfl rfl : ck_412 K = true))
    (of_decide_eq_true (c.t 10 13 rfl rfl : ck_413 K = true))
    (Hx.no_at (c.t 10 14 rfl rfl : ck_414 K = true))
    (c.f 32 (d := fn_32) rfl)
    (of_decide_eq_true (c.t 10 15 rfl rfl : ck_415 K = true))
    (of_decide_eq_true (c.t 10 16 rfl rfl : ck_416 K = true))
    (c.f 33 (d := fn_33) rfl)
    (of_decide_eq_true (c.t 10 17 rfl rfl : ck_417 K = true))
    (of_decide_eq_true (c.t 10 18 rfl rfl : ck_418 K = true))
    (c.f 34 (d := fn_34) rfl)
    (of_decide_eq_true (c.t 10 19 rfl rfl : ck_419 K = true))
    (of_decide_eq_true (c.t 10 20 rfl rfl : ck_420 K = true))
    (c.f 35 (d := fn_35) rfl)
    (of_decide_eq_true (c.t 10 21 rfl rfl : ck_421 K = true))
    (of_decide_eq_true (c.t 10 22 rfl rfl : ck_422 K = true))
    (c.f 36 (d := fn_36) rfl)
    (of_decide_eq_true (c.t 10 23 rfl rfl : ck_423 K = true))
    (of_decide_eq_true (c.t 10 24 rfl rfl : ck_424 K = true))
    (of_decide_eq_true (c.t 10 25 rfl rfl : ck_425 K = true))
    (of_decide_eq_true (c.t 10 26 rfl rfl : ck_426 K = true))
    (of_decide_eq_true (c.t 10 27 rfl rfl : ck_427 K = true))
    (of_decide_eq_true (c.t 10 28 rfl rfl : ck_428 K = true))
    (of_decide_eq_true (c.t 10 29 rfl rfl : ck_429 K = true))
    (of_decide_eq_true (c.t 10 30 rfl rfl : ck_430 K = true))
    (of_decide_eq_true (c.t 10 31 rfl rfl : ck_431 K = true))
    (of_decide_eq_true (c.t 10 32 rfl rfl : ck_432 K = true))
    (of_decide_eq_true (c.t 10 33 rfl rfl : ck_433 K = true))
    (of_decide_eq_true (c.t 10 34 rfl rfl : ck_434 K = true))
    (of_decide_eq_true (c.t 10 35 rfl rfl : ck_435 K = true))
    (of_decide_eq_true (c.t 10 36 rfl rfl : ck_436 K = true))
    (of_decide_eq_true (c.t 10 37 rfl rfl : ck_437 K = true))
    (of_decide_eq_true (c.t 10 38 rfl rfl : ck_438 K = true))
    (of_decide_eq_true (c.t 10 39 rfl rfl : ck_439 K = true))
    (of_decide_eq_true (c.t 11 0 rfl rfl : ck_440 K = true))
    (of_decide_eq_true (c.t 11 1 rfl rfl : ck_441 K = true))
end K71
open PySem PySem.W PyProof.Rows
set_option maxRecDepth 100000 in
set_option maxHeartbeats 0 in
theorem PySem.Challenge.cw_forkecho_k71_readings_added_holds : PySem.Challenge.rw_forkecho_k71_readings_added.Holds := by
  w_on; o_law
  refine HandSHeadRun.head_any (r := OpenLaw.row PySem.Challenge.rw_forkecho_k71_readings_added) (q := view (OpenLaw.row PySem.Challenge.rw_forkecho_k71_readings_added).prog [72, 73]) (H := K71.hk) (ob := K71.ob) (M := 100000) (loose := K71.names) (d := HandSHeadRun.topDef (OpenLaw.row PySem.Challenge.rw_forkecho_k71_readings_added).prog 73) (kwd := []) K71.ob_eq (by kernel_rfl) (fun s => by kernel_rfl) K71.run (by kernel_rfl) (by kernel_rfl) (by kernel_rfl) (by rfl) (by first | assumption | decide +kernel) (by decide +kernel) ⟨rfl, rfl, rfl, rfl, rfl, by decide +kernel⟩ ?hw ?hc
  case hw => w_witness2
  case hc =>
    refine Hx.walkXT (gz := true) (l := PySem.Challenge.rw_forkecho_k71_readings_added) (n := 63) (k := 8) (x := "_law_script") (names := ["law", "_law_stands"]) rfl (by decide) (by kernel_rfl) ⟨rfl, by decide, by decide⟩ (by decide +kernel) ?F
    intro w mg fa h Y G hmg0
    obtain ⟨K, KX, c⟩ := Y
    have hmg : mg ("law" : PySem.Str) = some (.ref fa) := by
      have e : (HandSHeadRun.topDef (OpenLaw.row PySem.Challenge.rw_forkecho_k71_readings_added).prog 73).name = ("law" : PySem.Str) := by kernel_rfl
      rw [← e]; exact hmg0
    exact ⟨K, KX, K71.all_K KX G hmg c⟩
#print axioms PySem.Challenge.cw_forkecho_k71_readings_added_holds
