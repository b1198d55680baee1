import PyProof.Rows.All
import Wide.All
import OpenK.AllK
import Wide.FinOn
import PyProof.EqAt
import PyProof.EqKinds
import PyProof.TupleCall
import HandS.ForMost
import HandS.ForExc
import HandS.Lambda
import HandS.TupAny
import HandS.TupMul
import HandS.Wide
import HandS.IsInst
import HandS.SortInts
import HandS.DictComp
import HandS.Zip
import HandS.Style
import HandS.SortRule
import HandS.Conv
import HandS.Codes
import HandS.DictTup
import KE.GoesEnum
import KE.GoesMore
import HandS.Iter
import HandS.Ends
import KE.KStateDown
import HandS.Head0
import HandS.Head1
import HandS.Head2
import HandS.HeadHook1
import HandS.HeadHook2
import HandS.ExcInit
import HandS.ExcField
import HandS.ExcIs
import HandS.ExcOwn
import KE.KExcInit
import HandS.EndBits
import HandS.EndTab
import KE.KNest
import KE.KUnpackStar
import HandS.More
import HandS.Defaults
import HandS.Star
import HandS.Property
import HandS.SlotsOwn
import KE.KOpsOwn
import HandS.Flow
import HandS.ListItems
import KE.KItemsList
import KE.KEqNest
import HandS.SortKw
import KE.DataMinMax
import PyProof.RulesMatch
import HandS.ClsMeth
import HandS.DictSub
import HandS.NamedTupGet
import HandS.OwnEq
import PyProof.InstNe
import HandS.SetFor
import KE.KExcIs
import PyProof.Conv_bool
import PyProof.CallType
import OpenK.KOps
import HandS.FStr
import HandS.Deep
import PyProof.FactsAll.dict_1
import PyProof.FactsAll.subtypes_4
import PyProof.NeKinds
import HandS.MakeKw
import PySem.Challenge.RW_forkecho_k25_ledgers_made
set_option Elab.async false
set_option linter.all false
set_option maxRecDepth 100000
set_option maxHeartbeats 4000000
namespace DL
open PySem PySem.Spec L2
/-! ### data: values as trees; what may be changed is a ref -/
inductive D where
  | non | bl (b : Bool) | int (i : Int) | str (s : Str) | ref (a : Addr) | ty (n : String)
  | tup (xs : List D) | tpl (xs : List D) | lst (xs : List D) | lk (xs : List D) | ob (C : Addr) (fs : List (Str × D)) | xob (C : Addr) (fs : List (Str × D)) | lam (f c : Addr) (q : Str) (ρ : List (Option D)) (σ : List (Option V)) | dK (kvs : List (Key × D)) | dT (kvs : List (List Key × D))
/-- an object that may change -/
inductive AO where
  | lst (xs : List D) | dK (kvs : List (Key × D)) | dT (kvs : List (List Key × D)) | ins (C : Addr) (fs : List (Str × D)) | lck (xs : List D) | tab (q : Str) | lckK (o : Obj) (kvs : List (Key × D))
abbrev AH := Addr → Option AO
def up (h : AH) (a : Addr) (o : AO) : AH := fun b => if b = a then some o else h b
@[simp] theorem up_same {h : AH} {a : Addr} {o : AO} : up h a o a = some o := by simp [up]
theorem up_ne {h : AH} {a b : Addr} {o : AO} (e : b ≠ a) : up h a o b = h b := by simp [up, e]
@[simp] theorem up_up {h : AH} {a : Addr} {o u : AO} : up (up h a o) a u = up h a u := by
  funext b; unfold up; split <;> rfl
/-- Sub g h: g is a part of h -/
def Sub (g h : AH) : Prop := ∀ a o, g a = some o → h a = some o
theorem Sub.refl (h : AH) : Sub h h := fun _ _ e => e
theorem Sub.trans {f g h : AH} (a : Sub f g) (b : Sub g h) : Sub f h := fun c o e => b c o (a c o e)
theorem sub_up {h : AH} {p : Addr} {o : AO} (e : h p = none) : Sub h (up h p o) := fun a u q => by
  rw [up_ne]; exact q
  rintro rfl; rw [e] at q; cases q
/-- an exception that is kept: its class, its dict -/
def exV (a C : Addr) (d : Option Addr) : HO := .ext fun h => ∃ (oe : Obj) (vs : Array Value), h.get? a = some oe ∧ Zc (.ref C) d oe ∧ oe.data = .fields vs
mutual
inductive Rep (K : PySem.W.Frag) (F : Hp) : D → V → Prop where
  | non : Rep K F .non .non
  | bl (b : Bool) : Rep K F (.bl b) (.bl b)
  | int (i : Int) : Rep K F (.int i) (.int i)
  | str (s : Str) : Rep K F (.str s) (.str s)
  | ref (a : Addr) : Rep K F (.ref a) (.ref a)
  | ty (n : String) : Rep K F (.ty n) (.ty n)
  | tup {a : Addr} {xs : List D} {vs : List V} (h : SqT K F a vs) (r : Reps K F xs vs) : Rep K F (.tup xs) (.ref a)
  | tpl {a : Addr} {ob : Obj} {xs : List D} {vs : List V} (h : F a = some (.frz ob (.tup vs))) (hd : ob.dict = none) (r : Reps K F xs vs) : Rep K F (.tpl xs) (.ref a)
  | lst {a : Addr} {xs : List D} {vs : List V} (h : F a = some (.lst vs)) (r : Reps K F xs vs) : Rep K F (.lst xs) (.ref a)
  | lk {a : Addr} {xs : List D} {vs : List V} (h : SqL K F a vs) (r : Reps K F xs vs) : Rep K F (.lk xs) (.ref a)
  | dK {a : Addr} {xs : List (Key × D)} {vs : List (Key × V)} (h : F a = some (.dK vs)) (r : RepK K F xs vs) : Rep K F (.dK xs) (.ref a)
  | dT {a : Addr} {xs : List (List Key × D)} {vs : List (List Key × V)} (h : F a = some (.dT vs)) (r : RepT K F xs vs) : Rep K F (.dT xs) (.ref a)
  | ob {a C : Addr} {dx : Addr} {xs : List (Str × D)} {vs : List (Str × V)} (h : F a = some (.ins C dx vs)) (r : RepF K F xs vs) : Rep K F (.ob C xs) (.ref a)
  | xob0 {a C : Addr} (h : F a = some (exV a C none)) : Rep K F (.xob C []) (.ref a)
  | xob {a C dx : Addr} {xs : List (Str × D)} {vs : List (Str × V)} (h : F a = some (exV a C (some dx))) (hd : F dx = some (.xd vs)) (r : RepF K F xs vs) : Rep K F (.xob C xs) (.ref a)
  | lam {f c : Addr} {q : Str} {ρ : List (Option D)} {σ : List (Option V)} (h : F c = some (LamX.CodeO c q)) (r : RepE K F ρ σ) : Rep K F (.lam f c q ρ σ) (.ref f)
inductive Reps (K : PySem.W.Frag) (F : Hp) : List D → List V → Prop where
  | nil : Reps K F [] []
  | cons {x : D} {v : V} {xs : List D} {vs : List V} (h : Rep K F x v) (t : Reps K F xs vs) : Reps K F (x :: xs) (v :: vs)
inductive RepK (K : PySem.W.Frag) (F : Hp) : List (Key × D) → List (Key × V) → Prop where
  | nil : RepK K F [] []
  | cons {k : Key} {x : D} {v : V} {xs : List (Key × D)} {vs : List (Key × V)} (h : Rep K F x v) (t : RepK K F xs vs) : RepK K F ((k, x) :: xs) ((k, v) :: vs)
inductive RepT (K : PySem.W.Frag) (F : Hp) : List (List Key × D) → List (List Key × V) → Prop where
  | nil : RepT K F [] []
  | cons {k : List Key} {x : D} {v : V} {xs : List (List Key × D)} {vs : List (List Key × V)} (h : Rep K F x v) (t : RepT K F xs vs) : RepT K F ((k, x) :: xs) ((k, v) :: vs)
inductive RepE (K : PySem.W.Frag) (F : Hp) : List (Option D) → List (Option V) → Prop where
  | nil : RepE K F [] []
  | none {ρ : List (Option D)} {σ : List (Option V)} {v : Option V} (t : RepE K F ρ σ) : RepE K F (none :: ρ) (v :: σ)
  | cons {d : D} {v : V} {ρ : List (Option D)} {σ : List (Option V)} (h : Rep K F d v) (t : RepE K F ρ σ) : RepE K F (some d :: ρ) (some v :: σ)
inductive RepF (K : PySem.W.Frag) (F : Hp) : List (Str × D) → List (Str × V) → Prop where
  | nil : RepF K F [] []
  | cons {k : Str} {x : D} {v : V} {xs : List (Str × D)} {vs : List (Str × V)} (h : Rep K F x v) (t : RepF K F xs vs) : RepF K F ((k, x) :: xs) ((k, v) :: vs)
end
def Ext (F F' : Hp) : Prop := ∀ a o, F a = some o → F' a = some o
theorem Ext.refl (F : Hp) : Ext F F := fun _ _ e => e
theorem Ext.trans {F G H : Hp} (a : Ext F G) (b : Ext G H) : Ext F H := fun c o e => b c o (a c o e)
theorem ext_upd {F : Hp} {p : Addr} {o : HO} (e : F p = none) : Ext F (upd F p o) := fun a u q => by
  rw [upd_ne]; exact q
  rintro rfl; rw [e] at q; cases q
theorem Ext.sqt {K : PySem.W.Frag} {F F' : Hp} {a : Addr} {vs : List V} (e : Ext F F') (h : SqT K F a vs) : SqT K F' a vs := by
  rcases h with (h | ⟨o, h⟩) | h
  · exact .inl (.inl (e _ _ h))
  · exact .inl (.inr ⟨o, e _ _ h⟩)
  · exact .inr h
theorem Ext.sql {K : PySem.W.Frag} {F F' : Hp} {a : Addr} {vs : List V} (e : Ext F F') (h : SqL K F a vs) : SqL K F' a vs := by
  rcases h with (h | ⟨o, h⟩) | h
  · exact .inl (.inl (e _ _ h))
  · exact .inl (.inr ⟨o, e _ _ h⟩)
  · exact .inr h
section
variable {K : PySem.W.Frag} {F F' : Hp}
mutual
theorem Rep.ext (e : Ext F F') : ∀ {x : D} {v : V}, Rep K F x v → Rep K F' x v
  | _, _, .non => .non
  | _, _, .bl b => .bl b
  | _, _, .int i => .int i
  | _, _, .str s => .str s
  | _, _, .ref a => .ref a
  | _, _, .ty n => .ty n
  | _, _, .tup h r => .tup (e.sqt h) (Reps.ext e r)
  | _, _, .tpl h hd r => .tpl (e _ _ h) hd (Reps.ext e r)
  | _, _, .lst h r => .lst (e _ _ h) (Reps.ext e r)
  | _, _, .lk h r => .lk (e.sql h) (Reps.ext e r)
  | _, _, .dK h r => .dK (e _ _ h) (RepK.ext e r)
  | _, _, .dT h r => .dT (e _ _ h) (RepT.ext e r)
  | _, _, .ob h r => .ob (e _ _ h) (RepF.ext e r)
  | _, _, .xob0 h => .xob0 (e _ _ h)
  | _, _, .xob h hd r => .xob (e _ _ h) (e _ _ hd) (RepF.ext e r)
  | _, _, .lam h r => .lam (e _ _ h) (RepE.ext e r)
theorem Reps.ext (e : Ext F F') : ∀ {xs : List D} {vs : List V}, Reps K F xs vs → Reps K F' xs vs
  | _, _, .nil => .nil
  | _, _, .cons h t => .cons (Rep.ext e h) (Reps.ext e t)
theorem RepK.ext (e : Ext F F') : ∀ {xs : List (Key × D)} {vs : List (Key × V)}, RepK K F xs vs → RepK K F' xs vs
  | _, _, .nil => .nil
  | _, _, .cons h t => .cons (Rep.ext e h) (RepK.ext e t)
theorem RepT.ext (e : Ext F F') : ∀ {xs : List (List Key × D)} {vs : List (List Key × V)}, RepT K F xs vs → RepT K F' xs vs
  | _, _, .nil => .nil
  | _, _, .cons h t => .cons (Rep.ext e h) (RepT.ext e t)
theorem RepE.ext (e : Ext F F') : ∀ {xs : List (Option D)} {vs : List (Option V)}, RepE K F xs vs → RepE K F' xs vs
  | _, _, .nil => .nil
  | _, _, .none t => .none (RepE.ext e t)
  | _, _, .cons h t => .cons (Rep.ext e h) (RepE.ext e t)
theorem RepF.ext (e : Ext F F') : ∀ {xs : List (Str × D)} {vs : List (Str × V)}, RepF K F xs vs → RepF K F' xs vs
  | _, _, .nil => .nil
  | _, _, .cons h t => .cons (Rep.ext e h) (RepF.ext e t)
end
theorem Reps.length : ∀ {xs : List D} {vs : List V}, Reps K F xs vs → xs.length = vs.length
  | _, _, .nil => rfl
  | _, _, .cons _ t => by simp [Reps.length t]
theorem Reps.append : ∀ {xs ys : List D} {vs ws : List V}, Reps K F xs vs → Reps K F ys ws → Reps K F (xs ++ ys) (vs ++ ws)
  | _, _, _, _, .nil, s => s
  | _, _, _, _, .cons h t, s => .cons h (Reps.append t s)
theorem Reps.get : ∀ {xs : List D} {vs : List V} {i : Nat} {x : D}, Reps K F xs vs → xs[i]? = some x → ∃ v, vs[i]? = some v ∧ Rep K F x v
  | _, _, _, _, .nil, e => by simp at e
  | _, _, 0, _, .cons h _, e => by simp at e; subst e; exact ⟨_, rfl, h⟩
  | _, _, i + 1, x, .cons _ t, e => by
    obtain ⟨v, h1, h2⟩ := Reps.get (i := i) (x := x) t (by simpa using e)
    exact ⟨v, by simpa using h1, h2⟩
theorem Reps.set {x : D} {v : V} (r : Rep K F x v) : ∀ {xs : List D} {vs : List V} (i : Nat), Reps K F xs vs → Reps K F (xs.set i x) (vs.set i v)
  | _, _, _, .nil => .nil
  | _, _, 0, .cons _ t => .cons r t
  | _, _, i + 1, .cons q t => .cons q (Reps.set r i t)
theorem Reps.take : ∀ {xs : List D} {vs : List V} (n : Nat), Reps K F xs vs → Reps K F (xs.take n) (vs.take n)
  | _, _, 0, _ => .nil
  | _, _, _ + 1, .nil => .nil
  | _, _, n + 1, .cons r t => .cons r (Reps.take n t)
theorem Reps.drop : ∀ {xs : List D} {vs : List V} (n : Nat), Reps K F xs vs → Reps K F (xs.drop n) (vs.drop n)
  | _, _, 0, r => r
  | _, _, _ + 1, .nil => .nil
  | _, _, n + 1, .cons _ t => Reps.drop n t
end
def RepO (K : PySem.W.Frag) (F : Hp) : AO → HO → Prop
  | .lst xs, u => ∃ vs, u = .lst vs ∧ Reps K F xs vs
  | .dK kvs, u => ∃ vs, u = .dK vs ∧ RepK K F kvs vs
  | .dT kvs, u => ∃ vs, u = .dT vs ∧ RepT K F kvs vs
  | .ins C fs, u => ∃ dx vs, u = .ins C dx vs ∧ RepF K F fs vs
  | .lck xs, u => ∃ o vs, u = .frz o (.lst vs) ∧ Reps K F xs vs
  | .lckK o kvs, u => ∃ vs, u = .frz o (.dK vs) ∧ RepK K F kvs vs
  | .tab q, u => ∃ ps : Array Value, u = .tbl ps ∧ TriplesOk ps.toList ∧ ∀ (pos : Pos) (cv : Value), codeAmong pos ps.toList = some cv → ∃ c, cv = .ref c ∧ F c = some (LamX.CodeO c q)
theorem RepO.ext {K : PySem.W.Frag} {F F' : Hp} (e : Ext F F') : ∀ {o : AO} {u : HO}, RepO K F o u → RepO K F' o u
  | .lst _, _, ⟨vs, a, r⟩ => ⟨vs, a, r.ext e⟩
  | .dK _, _, ⟨vs, a, r⟩ => ⟨vs, a, r.ext e⟩
  | .dT _, _, ⟨vs, a, r⟩ => ⟨vs, a, r.ext e⟩
  | .ins _ _, _, ⟨dx, vs, a, r⟩ => ⟨dx, vs, a, r.ext e⟩
  | .lck _, _, ⟨o, vs, a, r⟩ => ⟨o, vs, a, r.ext e⟩
  | .lckK _ _, _, ⟨vs, a, r⟩ => ⟨vs, a, r.ext e⟩
  | .tab _, _, ⟨ps, a, t, r⟩ => ⟨ps, a, t, fun pos cv z => let ⟨c, e1, e2⟩ := r pos cv z; ⟨c, e1, e _ _ e2⟩⟩
structure Sim (K : PySem.W.Frag) (F : Hp) (h : AH) (H : Hp) : Prop where
  fz : ∀ a o, F a = some o → H a = some o
  ob : ∀ a o, h a = some o → F a = none ∧ ∃ u, H a = some u ∧ RepO K F o u
section
variable {K : PySem.W.Frag} {F : Hp} {h g : AH} {H : Hp} {p : Addr}
theorem Sim.sub (S : Sim K F h H) (s : Sub g h) : Sim K F g H := ⟨S.fz, fun a o e => S.ob a o (s a o e)⟩
theorem Sim.free (S : Sim K F h H) (e : H p = none) : F p = none ∧ h p = none := by
  refine ⟨?_, ?_⟩
  · cases q : F p with
    | none => rfl
    | some o => rw [S.fz _ _ q] at e; cases e
  · cases q : h p with
    | none => rfl
    | some o => obtain ⟨_, u, e', _⟩ := S.ob _ _ q; rw [e'] at e; cases e
/-- a new object, never to change -/
theorem Sim.newF (S : Sim K F h H) (e : H p = none) (u : HO) : Sim K (upd F p u) h (upd H p u) := by
  obtain ⟨e1, e2⟩ := S.free e
  refine ⟨fun a o q => ?_, fun a o q => ?_⟩
  · by_cases c : a = p
    · subst c; rw [upd_same] at q ⊢; exact q
    · rw [upd_ne c] at q ⊢; exact S.fz _ _ q
  · have c : a ≠ p := by rintro rfl; rw [e2] at q; cases q
    obtain ⟨f, w, hw, r⟩ := S.ob _ _ q
    rw [upd_ne c, upd_ne c]
    exact ⟨f, w, hw, r.ext (ext_upd e1)⟩
/-- a new object that may change -/
theorem Sim.newM (S : Sim K F h H) (e : H p = none) {o : AO} {u : HO} (r : RepO K F o u) : Sim K F (up h p o) (upd H p u) := by
  obtain ⟨e1, e2⟩ := S.free e
  refine ⟨fun a v q => ?_, fun a v q => ?_⟩
  · have c : a ≠ p := by rintro rfl; rw [e1] at q; cases q
    rw [upd_ne c]; exact S.fz _ _ q
  · by_cases c : a = p
    · subst c; rw [up_same] at q; cases q; exact ⟨e1, u, upd_same, r⟩
    · rw [up_ne c] at q; rw [upd_ne c]; exact S.ob _ _ q
/-- an object changes -/
theorem Sim.put (S : Sim K F h H) {o0 : AO} (e : h p = some o0) {o : AO} {u : HO} (r : RepO K F o u) : Sim K F (up h p o) (upd H p u) := by
  obtain ⟨e1, _⟩ := S.ob _ _ e
  refine ⟨fun a v q => ?_, fun a v q => ?_⟩
  · have c : a ≠ p := by rintro rfl; rw [e1] at q; cases q
    rw [upd_ne c]; exact S.fz _ _ q
  · by_cases c : a = p
    · subst c; rw [up_same] at q; cases q; exact ⟨e1, u, upd_same, r⟩
    · rw [up_ne c] at q; rw [upd_ne c]; exact S.ob _ _ q
end
abbrev EnvD := List (Option D)
def EnvR (K : PySem.W.Frag) (F : Hp) (ρ : EnvD) (σ : St) : Prop := σ.length = ρ.length ∧ ∀ (i : Nat) d, ρ[i]? = some (some d) → ∃ v, σ[i]? = some (some v) ∧ Rep K F d v
theorem EnvR.ext {K : PySem.W.Frag} {F F' : Hp} (e : Ext F F') {ρ : EnvD} {σ : St} (r : EnvR K F ρ σ) : EnvR K F' ρ σ :=
  ⟨r.1, fun i d h => let ⟨v, a, b⟩ := r.2 i d h; ⟨v, a, b.ext e⟩⟩
theorem EnvR.set {K : PySem.W.Frag} {F : Hp} {ρ : EnvD} {σ : St} (r : EnvR K F ρ σ) {d : D} {v : V} (q : Rep K F d v) (i : Nat) : EnvR K F (ρ.set i (some d)) (σ.set i (some v)) := by
  refine ⟨by simp [r.1], fun j x e => ?_⟩
  by_cases c : i = j
  · subst c
    by_cases l : i < ρ.length
    · rw [List.getElem?_set_self l] at e; cases e
      exact ⟨v, List.getElem?_set_self (by rw [r.1]; exact l), q⟩
    · rw [List.getElem?_eq_none (by simpa using l)] at e; cases e
  · rw [List.getElem?_set_ne c] at e ⊢
    exact r.2 j x e
theorem RepE.env {K : PySem.W.Frag} {F : Hp} : ∀ {ρ : EnvD} {σ : St}, RepE K F ρ σ → EnvR K F ρ σ
  | _, _, .nil => ⟨rfl, fun i d h => by simp at h⟩
  | _, _, .none t => by
    obtain ⟨l, h⟩ := RepE.env t
    refine ⟨by simp [l], fun i d e => ?_⟩
    cases i with
    | zero => simp at e
    | succ i => simpa using h i d (by simpa using e)
  | _, _, .cons (v := v) r t => by
    obtain ⟨l, h⟩ := RepE.env t
    refine ⟨by simp [l], fun i d e => ?_⟩
    cases i with
    | zero =>
      obtain rfl := Option.some.inj (Option.some.inj (by simpa using e))
      exact ⟨v, by simp, r⟩
    | succ i => simpa using h i d (by simpa using e)
theorem EnvR.rep {K : PySem.W.Frag} {F : Hp} : ∀ {ρ : EnvD} {σ : St}, EnvR K F ρ σ → RepE K F ρ σ
  | [], σ, ⟨l, _⟩ => by
    cases σ with
    | nil => exact .nil
    | cons _ _ => cases l
  | x :: ρ, σ, ⟨l, h⟩ => by
    cases σ with
    | nil => cases l
    | cons v σ =>
      have t : RepE K F ρ σ := EnvR.rep ⟨by simpa using l, fun i d e => by simpa using h (i + 1) d (by simpa using e)⟩
      cases x with
      | none => exact .none t
      | some d =>
        obtain ⟨v', e, r⟩ := h 0 d (by simp)
        obtain rfl : v = some v' := by simpa using e
        exact .cons r t
/-! ### exceptions -/
inductive DX where
  | own (C : Addr) (fs : List (Str × D)) | blt (n : String)
def RepX (K : PySem.W.Frag) (F H : Hp) : DX → Value → Option Addr → Prop
  | .own C fs, cls, d => cls = .ref C ∧ ((fs = [] ∧ d = none) ∨ ∃ dd vs, d = some dd ∧ H dd = some (.xd vs) ∧ RepF K F fs vs)
  | .blt n, cls, _ => cls = .type n
abbrev KD := D → AH → Prop
abbrev KX := DX → AH → Prop
abbrev WE := EnvD → AH → KD → KX → Prop
abbrev WT := EnvD → AH → (Bool → AH → Prop) → KX → Prop
abbrev WA := EnvD → AH → (List D → AH → Prop) → KX → Prop
structure EndsD where
  nx : EnvD → AH → Prop
  rt : KD
  bk : EnvD → AH → Prop := fun _ _ => False
  ct : EnvD → AH → Prop := fun _ _ => False
  ex : KX
abbrev WS := EndsD → EnvD → AH → Prop
/-! ### the lifts -/
def LQ (K : PySem.W.Frag) (F : Hp) (Q : VK) : KD := fun d h' => ∀ F' H' v, Ext F F' → Sim K F' h' H' → Rep K F' d v → Q v H'
def LB (K : PySem.W.Frag) (F : Hp) (Q : Bool → Hp → Prop) : Bool → AH → Prop := fun b h' => ∀ F' H', Ext F F' → Sim K F' h' H' → Q b H'
def LA (K : PySem.W.Frag) (F : Hp) (Q : List V → Hp → Prop) : List D → AH → Prop := fun ds h' => ∀ F' H' vs, Ext F F' → Sim K F' h' H' → Reps K F' ds vs → Q vs H'
def LS (K : PySem.W.Frag) (F : Hp) (Q : St → Hp → Prop) : EnvD → AH → Prop := fun ρ' h' => ∀ F' H' σ', Ext F F' → Sim K F' h' H' → EnvR K F' ρ' σ' → Q σ' H'
def LX (K : PySem.W.Frag) (F : Hp) (E : XK) : KX := fun x h' => ∀ F' H' cls d, Ext F F' → Sim K F' h' H' → RepX K F' H' x cls d → E cls d H'
def LD (K : PySem.W.Frag) (F : Hp) (D : Ends) (E : XK) : EndsD := { nx := LS K F D.nx, rt := LQ K F D.rt, bk := LS K F D.bk, ct := LS K F D.ct, ex := LX K F E }
section
variable {K : PySem.W.Frag} {F F' : Hp}
theorem LQ.ext (e : Ext F F') {Q : VK} {d : D} {h : AH} (q : LQ K F Q d h) : LQ K F' Q d h := fun G H v a b c => q G H v (e.trans a) b c
theorem LB.ext (e : Ext F F') {Q : Bool → Hp → Prop} {d : Bool} {h : AH} (q : LB K F Q d h) : LB K F' Q d h := fun G H a b => q G H (e.trans a) b
theorem LA.ext (e : Ext F F') {Q : List V → Hp → Prop} {d : List D} {h : AH} (q : LA K F Q d h) : LA K F' Q d h := fun G H v a b c => q G H v (e.trans a) b c
theorem LS.ext (e : Ext F F') {Q : St → Hp → Prop} {d : EnvD} {h : AH} (q : LS K F Q d h) : LS K F' Q d h := fun G H v a b c => q G H v (e.trans a) b c
theorem LX.ext (e : Ext F F') {E : XK} {d : DX} {h : AH} (q : LX K F E d h) : LX K F' E d h := fun G H v w a b c => q G H v w (e.trans a) b c
end
def tE (K : PySem.W.Frag) (E : XK) (w : WE) : TE := fun σ H Q => ∃ F ρ h, Sim K F h H ∧ EnvR K F ρ σ ∧ w ρ h (LQ K F Q) (LX K F E)
def tT (K : PySem.W.Frag) (E : XK) (w : WT) : TT := fun σ H Q => ∃ F ρ h, Sim K F h H ∧ EnvR K F ρ σ ∧ w ρ h (LB K F Q) (LX K F E)
def tA (K : PySem.W.Frag) (E : XK) (w : WA) : TA := fun σ H Q => ∃ F ρ h, Sim K F h H ∧ EnvR K F ρ σ ∧ w ρ h (LA K F Q) (LX K F E)
def tS (K : PySem.W.Frag) (E : XK) (w : WS) : TS := fun D σ H => ∃ F ρ h, Sim K F h H ∧ EnvR K F ρ σ ∧ w (LD K F D E) ρ h
structure EndsD.Le (D D' : EndsD) : Prop where
  nx : ∀ ρ h, D.nx ρ h → D'.nx ρ h
  rt : ∀ d h, D.rt d h → D'.rt d h
  bk : ∀ ρ h, D.bk ρ h → D'.bk ρ h
  ct : ∀ ρ h, D.ct ρ h → D'.ct ρ h
  ex : ∀ x h, D.ex x h → D'.ex x h
theorem LD.ext {K : PySem.W.Frag} {F F' : Hp} (e : Ext F F') {D : Ends} {E : XK} : (LD K F D E).Le (LD K F' D E) :=
  ⟨fun _ _ q => LS.ext e q, fun _ _ q => LQ.ext e q, fun _ _ q => LS.ext e q, fun _ _ q => LS.ext e q, fun _ _ q => LX.ext e q⟩
theorem EndsD.Le.refl (D : EndsD) : D.Le D := ⟨fun _ _ q => q, fun _ _ q => q, fun _ _ q => q, fun _ _ q => q, fun _ _ q => q⟩
/-- monotone -/
def MoE (w : WE) : Prop := ∀ ρ h Q Q' X X', (∀ d h, Q d h → Q' d h) → (∀ x h, X x h → X' x h) → w ρ h Q X → w ρ h Q' X'
def MoT (w : WT) : Prop := ∀ ρ h Q Q' X X', (∀ d h, Q d h → Q' d h) → (∀ x h, X x h → X' x h) → w ρ h Q X → w ρ h Q' X'
def MoA (w : WA) : Prop := ∀ ρ h Q Q' X X', (∀ d h, Q d h → Q' d h) → (∀ x h, X x h → X' x h) → w ρ h Q X → w ρ h Q' X'
def MoS (w : WS) : Prop := ∀ D D' ρ h, D.Le D' → w D ρ h → w D' ρ h
/-! ### the judgements -/
structure AE (X : Cx) (E : XK) (e : Expr) (w : WE) : Prop where
  run : PE X e (tE X.K E w)
  mo : MoE w
structure AT (X : Cx) (E : XK) (e : Expr) (w : WT) : Prop where
  run : PT X e (tT X.K E w)
  mo : MoT w
structure AW (X : Cx) (E : XK) (e : Expr) (w : WT) : Prop where
  run : PW X e (tT X.K E w)
  mo : MoT w
structure AA (X : Cx) (E : XK) (es : List Expr) (w : WA) : Prop where
  run : PA X es (tA X.K E w)
  mo : MoA w
structure AS (X : Cx) (E : XK) (st : Stmt) (w : WS) : Prop where
  run : PS X st (tS X.K E w)
  mo : MoS w
structure ASs (X : Cx) (E : XK) (sts : List Stmt) (w : WS) : Prop where
  run : PSs X sts (tS X.K E w)
  mo : MoS w
theorem PE.imp {X : Cx} {e : Expr} {t t' : TE} (p : PE X e t) (h : ∀ σ H Q, t' σ H Q → t σ H Q) : PE X e t' := ⟨fun pins s σ H Q I q => p.run pins s σ H Q I (h _ _ _ q)⟩
theorem PT.imp {X : Cx} {e : Expr} {t t' : TT} (p : PT X e t) (h : ∀ σ H Q, t' σ H Q → t σ H Q) : PT X e t' := ⟨fun pins s σ H Q I q => p.run pins s σ H Q I (h _ _ _ q)⟩
theorem PW.imp {X : Cx} {e : Expr} {t t' : TT} (p : PW X e t) (h : ∀ σ H Q, t' σ H Q → t σ H Q) : PW X e t' := ⟨fun wh pins s σ H Q I q => p.run wh pins s σ H Q I (h _ _ _ q)⟩
theorem PA.imp {X : Cx} {e : List Expr} {t t' : TA} (p : PA X e t) (h : ∀ σ H Q, t' σ H Q → t σ H Q) : PA X e t' := ⟨fun pos pins s σ H Q I q => p.run pos pins s σ H Q I (h _ _ _ q)⟩
theorem PS.imp {X : Cx} {e : Stmt} {t t' : TS} (p : PS X e t) (h : ∀ D σ H, t' D σ H → t D σ H) : PS X e t' := ⟨fun pins s σ H Q I q => p.run pins s σ H Q I (h _ _ _ q)⟩
theorem PSs.imp {X : Cx} {e : List Stmt} {t t' : TS} (p : PSs X e t) (h : ∀ D σ H, t' D σ H → t D σ H) : PSs X e t' := ⟨fun pins s σ H Q I q => p.run pins s σ H Q I (h _ _ _ q)⟩
end DL
namespace DL
open PySem PySem.Spec L2
/-! ### a def's promise over data -/
abbrev FSpec := List D → AH → KD → KX → Prop
def MoF (S : FSpec) : Prop := ∀ ds h Q Q' X X', (∀ d h, Q d h → Q' d h) → (∀ x h, X x h → X' x h) → S ds h Q X → S ds h Q' X'
def spD (K : PySem.W.Frag) (S : FSpec) : Sp := fun vs H Q E => ∃ F ds h, Sim K F h H ∧ Reps K F ds vs ∧ S ds h (LQ K F Q) (LX K F E)
/-- what is asked around a piece of code -/
structure Cg (gz : Bool) (X : Cx) (E : XK) (k : Nat) : Prop where
  room : Room k X.A
  gd : gz = true → X.A.guards = some []
  calm : X.calm = true
  nd : X.N.Nodup
  ps : Passes (L2.CX X.prog X.w) X E
  po : PassesOwn (model X.prog X.w) X.A X.env X.xe
theorem Cg.mono {gz : Bool} {X : Cx} {E : XK} {j k : Nat} (c : Cg gz X E k) (h : j ≤ k) : Cg gz X E j := ⟨c.room.mono h, c.gd, c.calm, c.nd, c.ps, c.po⟩
/-- a def at f keeps its promise: ahead of it no guard runs -/
structure FnG (gz : Bool) (P : Program) (w : World) (K : PySem.W.Frag) (mg : Str → Option Value) (base : Heap) (k : Nat) (f : Addr) (fd : FuncData) (ps : List Str) (S : FSpec) : Prop where
  len : ∀ ds h Q X, S ds h Q X → ds.length = ps.length
  mo : MoF S
  run : ∀ {A : Around} {outer : List Env} {s : Shared} {H : Hp} {args : Args} {us : List Value} {vs : List V} {Q : VK} {E : XK},
    Room k A → (gz = true → A.guards = some []) → Env0 P w K mg base A outer s H → BindsTo s fd args (ps.zip us) → Vals vs us → spD K S vs H Q E →
    codeAny (model P w) A (.call (.ref f) args) (CR (L2.CX P w) outer P w H s Q E) s
theorem FnG.mono {gz : Bool} {P : Program} {w : World} {K : PySem.W.Frag} {mg : Str → Option Value} {base : Heap} {j k : Nat} {f : Addr} {fd : FuncData} {ps : List Str} {S : FSpec}
    (G : FnG gz P w K mg base j f fd ps S) (h : j ≤ k) : FnG gz P w K mg base k f fd ps S :=
  ⟨G.len, G.mo, fun r g e b v q => G.run (r.mono h) g e b v q⟩
theorem spD_len {K : PySem.W.Frag} {S : FSpec} {n : Nat} (l : ∀ ds h Q X, S ds h Q X → ds.length = n) {vs : List V} {H : Hp} {Q : VK} {E : XK} (h : spD K S vs H Q E) : vs.length = n := by
  obtain ⟨F, ds, g, _, r, q⟩ := h
  rw [← r.length]; exact l _ _ _ _ q
/-! ### from a body to the promise -/
/-- what may be told of a result: parts are dropped, a list that stands alone is frozen -/
inductive Fz : D → AH → D → AH → Prop where
  | sub {d : D} {h g : AH} : Sub g h → Fz d h d g
  | lst {a : Addr} {xs : List D} {h g : AH} : h a = some (.lst xs) → g a = none → Sub g h → Fz (.ref a) h (.lst xs) g
  | dK {a : Addr} {xs : List (Key × D)} {h g : AH} : h a = some (.dK xs) → g a = none → Sub g h → Fz (.ref a) h (.dK xs) g
  | dT {a : Addr} {xs : List (List Key × D)} {h g : AH} : h a = some (.dT xs) → g a = none → Sub g h → Fz (.ref a) h (.dT xs) g
  | tup1 {a : Addr} {xs ys : List D} {h g : AH} : h a = some (.lst xs) → g a = none → Sub g h → Fz (.tup (.ref a :: ys)) h (.tup (.lst xs :: ys)) g
  | sem {d d' : D} {h g : AH} : (∀ (K : PySem.W.Frag) (F H : Hp) (v : V), Sim K F h H → Rep K F d v → ∃ F', Ext F F' ∧ Sim K F' g H ∧ Rep K F' d' v) → Fz d h d' g
def fin (Q : KD) : KD := fun d h => ∃ d' g, Fz d h d' g ∧ Q d' g
theorem fin_of {Q : KD} {d : D} {h : AH} (q : Q d h) : fin Q d h := ⟨d, h, .sub (.refl h), q⟩
theorem fin_sub {Q : KD} {d : D} {h g : AH} (s : Sub g h) (q : Q d g) : fin Q d h := ⟨d, g, .sub s, q⟩
theorem fin_new {Q : KD} {d : D} {h : AH} {p : Addr} {o : AO} (e : h p = none) (q : Q d h) : fin Q d (up h p o) := ⟨d, h, .sub (sub_up e), q⟩
/-- a list among the changing ones is made one that does not change -/
theorem Sim.frz {K : PySem.W.Frag} {F : Hp} {h g : AH} {H : Hp} {a : Addr} {o : AO} {u : HO} (S : Sim K F h H) (e : h a = some o) (eu : H a = some u) (n : g a = none) (s : Sub g h) : Ext F (upd F a u) ∧ Sim K (upd F a u) g H := by
  obtain ⟨f, _⟩ := S.ob _ _ e
  refine ⟨ext_upd f, fun b v q => ?_, fun b v q => ?_⟩
  · by_cases c : b = a
    · subst c; rw [upd_same] at q; cases q; exact eu
    · rw [upd_ne c] at q; exact S.fz _ _ q
  · have c : b ≠ a := by rintro rfl; rw [n] at q; cases q
    obtain ⟨f1, w, hw, r⟩ := S.ob _ _ (s _ _ q)
    exact ⟨by rw [upd_ne c]; exact f1, w, hw, r.ext (ext_upd f)⟩
theorem LQ.fin {K : PySem.W.Frag} {F : Hp} {Q : VK} {d : D} {h : AH} (q : fin (LQ K F Q) d h) : LQ K F Q d h := by
  intro F' H' v e S r
  obtain ⟨d', g, z, q⟩ := q
  cases z with
  | sub s => exact q F' H' v e (S.sub s) r
  | @lst a xs _ _ ha hg s =>
    cases r
    obtain ⟨f, u, hu, vs, rfl, rs⟩ := S.ob _ _ ha
    obtain ⟨e2, S2⟩ := S.frz ha hu hg s
    exact q _ _ _ (e.trans e2) S2 (.lst upd_same (rs.ext e2))
  | @dK a xs _ _ ha hg s =>
    cases r
    obtain ⟨f, u, hu, vs, rfl, rs⟩ := S.ob _ _ ha
    obtain ⟨e2, S2⟩ := S.frz ha hu hg s
    exact q _ _ _ (e.trans e2) S2 (.dK upd_same (rs.ext e2))
  | @dT a xs _ _ ha hg s =>
    cases r
    obtain ⟨f, u, hu, vs, rfl, rs⟩ := S.ob _ _ ha
    obtain ⟨e2, S2⟩ := S.frz ha hu hg s
    exact q _ _ _ (e.trans e2) S2 (.dT upd_same (rs.ext e2))
  | @tup1 a xs ys _ _ ha hg s =>
    cases r with
    | tup hq rr =>
      cases rr with
      | cons r1 rt =>
        cases r1
        obtain ⟨f, u, hu, vs, rfl, rs⟩ := S.ob _ _ ha
        obtain ⟨e2, S2⟩ := S.frz ha hu hg s
        exact q _ _ _ (e.trans e2) S2 (.tup (e2.sqt hq) (.cons (.lst upd_same (rs.ext e2)) (rt.ext e2)))
  | sem hh =>
    obtain ⟨F2, e2, S2, r2⟩ := hh _ _ _ _ S r
    exact q _ _ _ (e.trans e2) S2 r2
def startD (n : Nat) (ds : List D) : EnvD := ds.map some ++ List.replicate (n - ds.length) none
def endsD (Q : KD) (X : KX) : EndsD := { nx := fun _ h => fin Q .non h, rt := fin Q, ex := X }
theorem start_env {K : PySem.W.Frag} {F : Hp} {N : List Str} {ds : List D} {vs : List V} (r : Reps K F ds vs) : EnvR K F (startD N.length ds) (L2.start N vs) := by
  have l := r.length
  refine ⟨by simp [startD, L2.start, l], fun i d e => ?_⟩
  unfold startD at e
  by_cases c : i < ds.length
  · rw [List.getElem?_append_left (by simpa using c), List.getElem?_map] at e
    cases q : ds[i]? with
    | none => rw [q] at e; cases e
    | some x =>
      rw [q] at e; cases e
      obtain ⟨v, h1, h2⟩ := r.get q
      refine ⟨v, ?_, h2⟩
      unfold L2.start
      rw [List.getElem?_append_left (by rw [List.length_map, ← l]; exact c), List.getElem?_map, h1]
      rfl
  · rw [List.getElem?_append_right (by simpa using c), List.getElem?_replicate] at e
    split at e <;> cases e
section
variable {P : Program} {w : World} {K : PySem.W.Frag} {mg : Str → Option Value} {base : Heap}
/-- THE RULE for a def: its body as a term of rules, and what it computes over data -/
theorem fng_of {gz : Bool} {x qual : Str} {st : Stmt} {f : Addr} {fd : FuncData} {N ps : List Str} {k : Nat} {S : FSpec} {W : WS}
    (F : Fun K x qual st f fd) (sc : FnScope N ps (defScope st)) (len : ∀ ds h Q X, S ds h Q X → ds.length = ps.length) (mo : MoF S)
    (body : ∀ (cdv : Value) (A : Around) (outer : List PySem.Env) (s : Shared) (H : Hp) (E : XK), Cg gz (cxOf (L2.CX P w) P w K mg base N qual (defScope st) f cdv A outer s H E) E k →
      ASs (cxOf (L2.CX P w) P w K mg base N qual (defScope st) f cdv A outer s H E) E (defBody st) W)
    (pure : ∀ ds h Q X, S ds h Q X → W (endsD Q X) (startD N.length ds) h) : FnG gz P w K mg base (k + 1) f fd ps S := by
  refine ⟨len, mo, fun {A outer s H args us vs Q E} hr hg e0 hb hv hs => ?_⟩
  obtain ⟨oc, od, kV, doc, pm, an, cdv, ct, osl, rfl, lk, hcd⟩ := F.ex
  have lenv := spD_len len hs
  have inK : K.In s.heap := e0.mod.kin.keeps fun b o e =>
    (e0.bs b o e).1
  have nol : s.heap.NoLimit := e0.mod.nolimit.keeps fun b o e =>
    (e0.bs b o e).1
  have kinds : ∀ y ∈ ps.zip us, (defScope st).names.lookup y.1 = some .local ∨
      ((defScope st).names.lookup y.1 = some .cell ∧ ((cellsFrom (s.heap.objs.size + 1) (defScope st).names []).lookup y.1).isSome = true) := by
    rintro ⟨n, v⟩ hy
    cases sc.par n (List.of_mem_zip hy).1 with
    | inl q => exact .inl q
    | inr q => exact .inr ⟨q, PySem.W.cellsFrom_some _ _ _ (.inl q)⟩
  refine codeAny_call_function hr.depth (inK _ _ lk) rfl
    sc.co sc.gen rfl (PySem.W.codeRec_of inK hcd) (hb _ _ _ _ ?_)
  refine wpAny_newFunctionEnv_cells sc.kind kinds
    fun env he s1 ic => ?_
  subst he
  refine ⟨nol.keeps ic.toInCall.keep,
    codeAny_func ?_⟩
  have I := inv_start (CX := L2.CX P w) (P := P) (w := w) (mg := mg) (base := base) (E := E) sc hr.hd e0 lenv hv ic
  have c : Cg gz (cxOf (L2.CX P w) P w K mg base N qual (defScope st) f cdv A outer s H E) E k :=
    ⟨hr.deeper _, hg, rfl, sc.nd, passes_call (takes_of rfl rfl rfl rfl) fun _ _ _ _ z => z, passes_of rfl⟩
  obtain ⟨F0, ds, g, S0, r0, q0⟩ := hs
  have B := body cdv A outer s H E c
  have go : tS K E W { nx := fun _ H' => Q .non H', rt := Q } (L2.start N vs) H := by
    refine ⟨F0, _, g, S0, start_env r0, B.mo (endsD (LQ K F0 Q) (LX K F0 E)) _ _ _ ⟨fun ρ h z => ?_, fun d h z => LQ.fin z, fun _ _ z => False.elim z, fun _ _ z => False.elim z, fun _ _ z => z⟩ (pure ds g _ _ q0)⟩
    exact fun F' H' σ' e S' _ => LQ.fin z F' H' .non e S' .non
  refine wpAny_mono (B.run.run [] s1 _ H _ I go) (fun fl s' hq => ?_) fun e s' hq => hq
  cases fl with
  | ret u =>
    obtain ⟨v, σ', H', J, rv, q⟩ := hq
    exact ⟨v, H', J.os, J.bare, J.base, J.hok, rv, q⟩
  | next =>
    obtain ⟨σ', H', J, q⟩ := hq
    exact ⟨.non, H', J.os, J.bare, J.base, J.hok, rfl, q⟩
  | brk => obtain ⟨_, _, _, q⟩ := hq; exact q.elim
  | cont => obtain ⟨_, _, _, q⟩ := hq; exact q.elim
end
/-! ### calls -/
/-- how n positional values and the keywords' values (names ks) come to the parameters -/
structure Bnd (K : PySem.W.Frag) (fd : FuncData) (ps : List Str) (n : Nat) (ks : List Str) (g : List D → List D → List D) : Prop where
  to : ∀ (s : Shared) (F : Hp) (ds zs : List D) (vs ys : List V) (us ws : List Value), K.In s.heap → ds.length = n → zs.length = ks.length →
    Reps K F ds vs → Vals vs us → Reps K F zs ys → Vals ys ws → ∃ xs ts, Reps K F (g ds zs) xs ∧ Vals xs ts ∧ BindsTo s fd ⟨us, ks.zip ws⟩ (ps.zip ts)
theorem Bnd.plain {K : PySem.W.Frag} {fd : FuncData} {ps : List Str} (h : ∀ us : List Value, us.length = ps.length → bindArgs fd ⟨us, []⟩ = pure (ps.zip us)) : Bnd K fd ps ps.length [] (fun ds _ => ds) := by
  refine ⟨fun s F ds zs vs ys us ws X l1 l2 r1 r2 r3 r4 => ⟨vs, us, r1, r2, ?_⟩⟩
  have l : us.length = ps.length := by rw [← r2.length, ← r1.length]; exact l1
  cases zs with
  | cons _ _ => cases l2
  | nil => cases r3; cases r4; exact .of_eq (h us l)
/-- a def that a name of the module holds -/
structure Cal (gz : Bool) (P : Program) (w : World) (K : PySem.W.Frag) (mg : Str → Option Value) (base : Heap) (x : Str) (k n : Nat) (ks : List Str) (g : List D → List D → List D) (S : FSpec) : Prop where
  ex : ∃ f fd ps, mg x = some (.ref f) ∧ PySem.W.keepIn K (.ref f) = true ∧ FnG gz P w K mg base k f fd ps S ∧ Bnd K fd ps n ks g
section
variable {X : Cx} {E : XK} {k n : Nat} {ks : List Str} {g : List D → List D → List D} {S : FSpec} {x : Str} {p pos : Pos} {e : Expr} {es : List Expr} {wa wk : WA}
theorem run_g {gz gy : Bool} {pins : List (Addr × Obj)} {σ : L2.St} {H : Hp} {s : Shared} {Q : VK} {f : Addr} {fd : FuncData} {ps : List Str} {args : Args} {us : List Value} {vs : List V} (c : Cg gz X E k)
    (G : FnG gy X.prog X.w X.K X.mg X.base k f fd ps S) (hz : gy = true → gz = true) (I : Inv X pins σ H s) (hb : BindsTo s fd args (ps.zip us)) (r : Vals vs us) (h : spD X.K S vs H Q E) :
    codeAny (model X.prog X.w) X.A (.call (.ref f) args) (fun r s' => match r with | .ok (.ret u) => EP X pins σ Q u s' | .ok _ => False | .error e => X.xe e s') s := by
  refine codeAny_mono (G.run c.room (fun z => c.gd (hz z)) I.env0 hb r h) fun r s' hq => ?_
  match r, hq with
  | .error e, hq => exact c.ps pins σ H s e s' I hq
  | .ok (.ret u), hq => exact I.after hq
  | .ok .next, hq => exact hq.elim
  | .ok .brk, hq => exact hq.elim
  | .ok .cont, hq => exact hq.elim
end
/-- f(..): n positional values, keywords -/
def wCall (S : FSpec) (n m : Nat) (g : List D → List D → List D) (wa wk : WA) : WE := fun ρ h Q X => wa ρ h (fun ds h1 => wk ρ h1 (fun zs h2 => ds.length = n ∧ zs.length = m ∧ S (g ds zs) h2 Q X) X) X
end DL
namespace DL
open PySem PySem.Spec L2
/-! ### data as the library's own data -/
mutual
def pd : D → PyData
  | .non => .none
  | .bl b => .bool b
  | .int i => .int i
  | .str s => .str s
  | .tup xs => .tuple (pds xs)
  | .tpl xs => .tuple (pds xs)
  | .lst xs => .list (pds xs)
  | .ref _ => .none
  | .ty _ => .none
  | .lk _ => .none
  | .ob _ _ => .none
  | .xob _ _ => .none
  | .lam _ _ _ _ _ => .none
  | .dK _ => .none
  | .dT _ => .none
def pds : List D → List PyData
  | [] => []
  | x :: xs => pd x :: pds xs
end
mutual
def dat : D → Bool
  | .non => true
  | .bl _ => true
  | .int _ => true
  | .str _ => true
  | .tup xs => dats xs
  | .tpl xs => dats xs
  | .lst xs => dats xs
  | .ref _ => false
  | .ty _ => false
  | .lk _ => false
  | .ob _ _ => false
  | .xob _ _ => false
  | .lam _ _ _ _ _ => false
  | .dK _ => false
  | .dT _ => false
def dats : List D → Bool
  | [] => true
  | x :: xs => dat x && dats xs
end
theorem pds_map : ∀ xs : List D, pds xs = xs.map pd
  | [] => rfl
  | x :: xs => by rw [pds, pds_map xs]; rfl
/-- a list or dict that may change, as it stands now -/
def cur (h : AH) : D → D
  | .ref a => match h a with
    | some (.lst xs) => .lst xs
    | some (.dK kvs) => .dK kvs
    | some (.dT kvs) => .dT kvs
    | _ => .ref a
  | d => d
section
variable {K : PySem.W.Frag} {F H : Hp}
theorem sqt_of {a : Addr} {vs : List V} (e : ∀ a o, F a = some o → H a = some o) (h : SqT K F a vs) : SqT K H a vs := Ext.sqt e h
mutual
theorem Rep.dp (e : ∀ a o, F a = some o → H a = some o) : ∀ {d : D} {v : V}, Rep K F d v → dat d = true → Dp K H v (pd d)
  | _, _, .non, _ => by rw [pd]; exact .non
  | _, _, .bl b, _ => by rw [pd]; exact .bl b
  | _, _, .int i, _ => by rw [pd]; exact .int i
  | _, _, .str s, _ => by rw [pd]; exact .str s
  | _, _, .ref a, h => by rw [dat] at h; cases h
  | _, _, .ty n, h => by rw [dat] at h; cases h
  | _, _, .lk _ _, h => by rw [dat] at h; cases h
  | _, _, .ob _ _, h => by rw [dat] at h; cases h
  | _, _, .dK _ _, h => by rw [dat] at h; cases h
  | _, _, .dT _ _, h => by rw [dat] at h; cases h
  | _, _, .tup h r, q => by rw [dat] at q; rw [pd]; exact .tup (sqt_of e h) (Reps.dp e r q)
  | _, _, .tpl h hd r, q => by rw [dat] at q; rw [pd]; exact .tup (sqt_of e (.inl (.inr ⟨_, h⟩))) (Reps.dp e r q)
  | _, _, .lst h r, q => by rw [dat] at q; rw [pd]; exact .lst (.of (e _ _ h)) (Reps.dp e r q)
theorem Reps.dp (e : ∀ a o, F a = some o → H a = some o) : ∀ {ds : List D} {vs : List V}, Reps K F ds vs → dats ds = true → DpAll K H vs (pds ds)
  | _, _, .nil, _ => by rw [pds]; exact .nil
  | _, _, .cons h t, q => by
    rw [dats, Bool.and_eq_true] at q
    rw [pds]; exact .cons (Rep.dp e h q.1) (Reps.dp e t q.2)
end
theorem Sim.curDp {h : AH} (S : Sim K F h H) {d : D} {v : V} (r : Rep K F d v) (q : dat (cur h d) = true) : Dp K H v (pd (cur h d)) := by
  have base : ∀ {d : D} {v : V}, Rep K F d v → dat d = true → Dp K H v (pd d) := fun r q => r.dp S.fz q
  cases r with
  | ref a =>
    cases e : h a with
    | none => simp [cur, e, dat] at q
    | some o =>
      cases o with
      | lst xs =>
        obtain ⟨_, u, hu, vs, rfl, rs⟩ := S.ob _ _ e
        simp only [cur, e, dat] at q
        simp only [cur, e, pd]
        exact .lst (.of hu) (rs.dp S.fz q)
      | dK _ => simp [cur, e, dat] at q
      | dT _ => simp [cur, e, dat] at q
      | ins _ _ => simp [cur, e, dat] at q
      | lck _ => simp [cur, e, dat] at q
      | lckK _ _ => simp [cur, e, dat] at q
      | tab _ => simp [cur, e, dat] at q
  | non => exact base .non q
  | bl b => exact base (.bl b) q
  | int i => exact base (.int i) q
  | str s => exact base (.str s) q
  | ty n => exact base (.ty n) q
  | tup h r => exact base (.tup h r) q
  | tpl h hd r => exact base (.tpl h hd r) q
  | lst h r => exact base (.lst h r) q
  | dK h r => exact base (.dK h r) q
  | dT h r => exact base (.dT h r) q
  | lk h r => exact base (.lk h r) q
  | ob h r => exact base (.ob h r) q
  | xob0 h => exact base (.xob0 h) q
  | lam h r => exact base (.lam h r) q
  | xob h hd r => exact base (.xob h hd r) q
end
/-! ### lists -/
def lstOf (h : AH) : D → Option (List D)
  | .lst xs => some xs
  | .ref a => match h a with
    | some (.lst xs) => some xs
    | _ => none
  | _ => none
def seqOf (h : AH) : D → Option (List D)
  | .tup xs => some xs
  | .tpl xs => some xs
  | d => lstOf h d
def newL (m : Bool) (xs : List D) (h : AH) (Q : KD) : Prop := if m = true then ∀ p, h p = none → Q (.ref p) (up h p (.lst xs)) else Q (.lst xs) h
section
variable {K : PySem.W.Frag} {F : Hp} {h : AH} {H : Hp} {d : D} {v : V} {xs : List D}
theorem Sim.lstOf (S : Sim K F h H) (r : Rep K F d v) (e : lstOf h d = some xs) : ∃ a vs, v = .ref a ∧ H a = some (.lst vs) ∧ Reps K F xs vs := by
  cases r with
  | ref a =>
    cases q : h a with
    | none => simp [DL.lstOf, q] at e
    | some o =>
      cases o with
      | lst ys =>
        simp only [DL.lstOf, q, Option.some.injEq] at e
        subst e
        obtain ⟨_, u, hu, vs, rfl, rs⟩ := S.ob _ _ q
        exact ⟨a, vs, rfl, hu, rs⟩
      | dK _ => simp [DL.lstOf, q] at e
      | dT _ => simp [DL.lstOf, q] at e
      | ins _ _ => simp [DL.lstOf, q] at e
      | lck _ => simp [DL.lstOf, q] at e
      | lckK _ _ => simp [DL.lstOf, q] at e
      | tab _ => simp [DL.lstOf, q] at e
  | @lst a ys vs hf rs =>
    cases e
    exact ⟨a, vs, rfl, S.fz _ _ hf, rs⟩
  | non => cases e
  | bl _ => cases e
  | int _ => cases e
  | str _ => cases e
  | ty _ => cases e
  | lk _ _ => cases e
  | ob _ _ => cases e
  | xob0 _ => cases e
  | lam _ _ => cases e
  | xob _ _ _ => cases e
  | tup _ _ => cases e
  | tpl _ _ _ => cases e
  | dK _ _ => cases e
  | dT _ _ => cases e
theorem Sim.seqOf (S : Sim K F h H) (r : Rep K F d v) (e : seqOf h d = some xs) : ∃ a vs, v = .ref a ∧ (SqL K H a vs ∨ SqT K H a vs) ∧ Reps K F xs vs := by
  by_cases c : ∃ ys, d = .tup ys
  · obtain ⟨ys, rfl⟩ := c
    cases r with
    | @tup a _ vs hf rs =>
      cases e
      exact ⟨a, vs, rfl, .inr (sqt_of S.fz hf), rs⟩
  by_cases c2 : ∃ ys, d = .tpl ys
  · obtain ⟨ys, rfl⟩ := c2
    cases r with
    | @tpl a _ _ vs hf _ rs =>
      cases e
      exact ⟨a, vs, rfl, .inr (sqt_of S.fz (.inl (.inr ⟨_, hf⟩))), rs⟩
  · have e' : DL.lstOf h d = some xs := by
      cases d <;> first | exact e | exact absurd ⟨_, rfl⟩ c | exact absurd ⟨_, rfl⟩ c2
    obtain ⟨a, vs, r1, r2, r3⟩ := S.lstOf r e'
    exact ⟨a, vs, r1, .inl (.of r2), r3⟩
theorem Sim.newL {m : Bool} {vs : List V} {Q : VK} (S : Sim K F h H) (r : Reps K F xs vs) (q : newL m xs h (LQ K F Q)) : ∀ p, H p = none → Q (.ref p) (upd H p (.lst vs)) := by
  intro p hp
  obtain ⟨f, g⟩ := S.free hp
  unfold DL.newL at q
  split at q
  · exact q p g F _ _ (.refl F) (S.newM hp ⟨vs, rfl, r⟩) (.ref p)
  · exact q _ _ _ (ext_upd f) (S.newF hp _) (.lst upd_same (r.ext (ext_upd f)))
theorem newL_mo {m : Bool} {Q Q' : KD} (hq : ∀ d h, Q d h → Q' d h) (q : newL m xs h Q) : newL m xs h Q' := by
  unfold newL at *
  split at q
  · rename_i c; rw [if_pos c]; exact fun p e => hq _ _ (q p e)
  · rename_i c; rw [if_neg c]; exact hq _ _ q
@[simp] theorem newL_t {Q : KD} : newL true xs h Q = ∀ p, h p = none → Q (.ref p) (up h p (.lst xs)) := by simp [newL]
@[simp] theorem newL_f {Q : KD} : newL false xs h Q = Q (.lst xs) h := by simp [newL]
/-- a new tuple -/
theorem Sim.newT {vs : List V} {Q : VK} (S : Sim K F h H) (r : Reps K F xs vs) (q : LQ K F Q (.tup xs) h) : ∀ p, H p = none → Q (.ref p) (upd H p (.tup vs)) := by
  intro p hp
  obtain ⟨f, g⟩ := S.free hp
  exact q _ _ _ (ext_upd f) (S.newF hp _) (.tup (.of upd_same) (r.ext (ext_upd f)))
theorem LQ.at {Q : VK} (q : LQ K F Q d h) (S : Sim K F h H) (r : Rep K F d v) : Q v H := q F H v (.refl F) S r
end
/-! ### operators over data -/
structure OpD (K : PySem.W.Frag) (r : V → V → Hp → VK → Prop) (f : D → D → AH → KD → Prop) : Prop where
  to : ∀ {F h H x y vx vy} {Q : VK}, Sim K F h H → Rep K F x vx → Rep K F y vy → f x y h (LQ K F Q) → r vx vy H Q
  mo : ∀ {x y h} {Q Q' : KD}, (∀ d h, Q d h → Q' d h) → f x y h Q → f x y h Q'
def MulOk (i j : Int) : Prop := (-(2 ^ 64) < i ∧ i < 2 ^ 64) ∨ (-(2 ^ 64) < j ∧ j < 2 ^ 64) ∨ i.natAbs.log2 + j.natAbs.log2 < 1000000
def DivOk (j : Int) : Prop := 0 < j ∧ (j < 1073741824 ∨ j.natAbs.log2 < 9000)
def PowOk (i j : Int) : Prop := 0 ≤ j ∧ j ≤ 1000000 ∧ i.natAbs < 2 ^ 64
def dAdd (m : Bool) (x y : D) (h : AH) (Q : KD) : Prop := match x, y with
  | .int i, .int j => Q (.int (i + j)) h
  | .str a, .str b => a.length + b.length ≤ sizeLine ∧ Q (.str (a ++ b)) h
  | .tup xs, .tup ys => xs.length + ys.length ≤ sizeLine ∧ Q (.tup (xs ++ ys)) h
  | x, y => ∃ xs ys, lstOf h x = some xs ∧ lstOf h y = some ys ∧ xs.length + ys.length ≤ sizeLine ∧ newL m (xs ++ ys) h Q
def dSub (x y : D) (h : AH) (Q : KD) : Prop := match x, y with
  | .int i, .int j => Q (.int (i - j)) h
  | _, _ => False
def dMul (m : Bool) (x y : D) (h : AH) (Q : KD) : Prop := match x, y with
  | .int i, .int j => MulOk i j ∧ Q (.int (i * j)) h
  | x, .int k => ∃ xs, lstOf h x = some xs ∧ k < 2 ^ 62 ∧ -(2 ^ 62) < k ∧ xs.length * k.toNat ≤ sizeLine ∧ newL m (List.replicate k.toNat xs).flatten h Q
  | _, _ => False
def dDiv (x y : D) (h : AH) (Q : KD) : Prop := match x, y with
  | .int i, .int j => DivOk j ∧ Q (.int (i / j)) h
  | _, _ => False
def dMod (x y : D) (h : AH) (Q : KD) : Prop := match x, y with
  | .int i, .int j => 0 < j ∧ Q (.int (i % j)) h
  | _, _ => False
def dPow (x y : D) (h : AH) (Q : KD) : Prop := match x, y with
  | .int i, .int j => PowOk i j ∧ Q (.int (i ^ j.toNat)) h
  | _, _ => False
def dCmpI (f : Int → Int → Bool) (x y : D) (h : AH) (Q : KD) : Prop := match x, y with
  | .int i, .int j => Q (.bl (f i j)) h
  | _, _ => False
/-- == of data -/
def dEq (f : Bool → Bool) (x y : D) (h : AH) (Q : KD) : Prop := match x, y with
  | .int i, .int j => Q (.bl (f (decide (i = j)))) h
  | .str i, .str j => Q (.bl (f (decide (i = j)))) h
  | .bl i, .bl j => Q (.bl (f (decide (i = j)))) h
  | x, y => dat (cur h x) = true ∧ dat (cur h y) = true ∧ SeqAt.shaped (pd (cur h x)) = true ∧ SeqAt.shaped (pd (cur h y)) = true ∧ Q (.bl (f (PyData.eqv (pd (cur h x)) (pd (cur h y))))) h
def dIsN (f : Bool → Bool) (x y : D) (h : AH) (Q : KD) : Prop := match x, y with
  | .non, .non => Q (.bl (f true)) h
  | .bl i, .bl j => Q (.bl (f (decide (i = j)))) h
  | _, .non => Q (.bl (f false)) h
  | _, _ => False
section
variable {X : Cx}
/-- the rule of values that a D-operator stands on -/
def rMul (K : PySem.W.Frag) : R2 := fun x y H Q => rI CMul (fun i j => .int (i * j)) x y H Q ∨ rI CMulW (fun i j => .int (i * j)) x y H Q ∨ rRep x y H Q
theorem op_mulD : OpR X (binaryOp .Mult) (rMul X.K) := OpR.or op_mul (OpR.or op_mulW op_rep)
theorem dMul_ok {K : PySem.W.Frag} {m : Bool} : OpD K (rMul K) (dMul m) where
  to := by
    intro F h H x y vx vy Q S rx ry q
    unfold dMul at q
    split at q
    · cases rx; cases ry
      obtain ⟨c, q⟩ := q
      rcases c with c | c | c
      · exact .inl ⟨_, _, rfl, rfl, .inl c, q.at S (.int _)⟩
      · exact .inl ⟨_, _, rfl, rfl, .inr c, q.at S (.int _)⟩
      · exact .inr (.inl ⟨_, _, rfl, rfl, c, q.at S (.int _)⟩)
    · obtain ⟨xs, e, c1, c2, l, q⟩ := q
      obtain ⟨a, vs, rfl, ha, rs⟩ := S.lstOf rx e
      cases ry
      refine .inr (.inr ⟨a, _, vs, rfl, rfl, ha, by omega, by omega, by rw [← rs.length]; exact l, S.newL (vs := (List.replicate _ vs).flatten) ?_ q⟩)
      generalize Int.toNat _ = n
      induction n with
      | zero => exact .nil
      | succ n ih => rw [List.replicate_succ, List.replicate_succ, List.flatten_cons, List.flatten_cons]; exact rs.append ih
    · exact q.elim
  mo := by
    intro x y h Q Q' hq q
    unfold dMul at *
    split at q
    · exact ⟨q.1, hq _ _ q.2⟩
    · obtain ⟨xs, e, c1, c2, l, q⟩ := q
      exact ⟨xs, e, c1, c2, l, newL_mo hq q⟩
    · exact q.elim
def rAddD (K : PySem.W.Frag) : R2 := fun x y H Q => rI0 (fun i j => .int (i + j)) x y H Q ∨ (∃ i j, x = .str i ∧ y = .str j ∧ i.length + j.length ≤ sizeLine ∧ Q (.str (i ++ j)) H) ∨ rCatA K x y H Q ∨ rCat x y H Q
theorem op_addD : OpR X (binaryOp .Add) (rAddD X.K) := OpR.or op_add (OpR.or op_add_str (OpR.or op_catA op_cat))
theorem reps_nil {K : PySem.W.Frag} {F : Hp} {xs : List D} {vs : List V} (r : Reps K F xs vs) : vs = [] ↔ xs = [] := by
  cases r <;> simp
theorem dAdd_ok {K : PySem.W.Frag} {m : Bool} : OpD K (rAddD K) (dAdd m) where
  to := by
    intro F h H x y vx vy Q S rx ry q
    unfold dAdd at q
    split at q
    · cases rx; cases ry
      exact .inl ⟨_, _, rfl, rfl, q.at S (.int _)⟩
    · cases rx; cases ry
      exact .inr (.inl ⟨_, _, rfl, rfl, q.1, q.2.at S (.str _)⟩)
    · cases rx with
      | @tup a xs vs ha rs =>
      cases ry with
      | @tup b ys ws hb rt =>
      obtain ⟨l, q⟩ := q
      refine .inr (.inr (.inl ⟨a, b, vs, ws, rfl, rfl, sqt_of S.fz ha, sqt_of S.fz hb, by rw [← rs.length, ← rt.length]; exact l, fun e => ?_, fun _ e => ?_, fun _ _ => S.newT (rs.append rt) q⟩))
      · rw [(reps_nil rs).mp e, List.nil_append] at q
        exact q.at S (.tup hb rt)
      · rw [(reps_nil rt).mp e, List.append_nil] at q
        exact q.at S (.tup ha rs)
    · obtain ⟨xs, ys, e1, e2, l, q⟩ := q
      obtain ⟨a, vs, rfl, ha, rs⟩ := S.lstOf rx e1
      obtain ⟨b, ws, rfl, hb, rt⟩ := S.lstOf ry e2
      exact .inr (.inr (.inr ⟨a, b, vs, ws, rfl, rfl, ha, hb, by rw [← rs.length, ← rt.length]; exact l, S.newL (rs.append rt) q⟩))
  mo := by
    intro x y h Q Q' hq q
    unfold dAdd at *
    split at q
    · exact hq _ _ q
    · exact ⟨q.1, hq _ _ q.2⟩
    · exact ⟨q.1, hq _ _ q.2⟩
    · obtain ⟨xs, ys, e1, e2, l, q⟩ := q
      exact ⟨xs, ys, e1, e2, l, newL_mo hq q⟩
theorem dSub_ok {K : PySem.W.Frag} : OpD K (rI0 fun i j => .int (i - j)) dSub where
  to := by
    intro F h H x y vx vy Q S rx ry q
    unfold dSub at q
    split at q
    · cases rx; cases ry; exact ⟨_, _, rfl, rfl, q.at S (.int _)⟩
    · exact q.elim
  mo := by
    intro x y h Q Q' hq q
    unfold dSub at *
    split at q
    · exact hq _ _ q
    · exact q.elim
def rDivD : R2 := fun x y H Q => rI CDiv (fun i j => .int (i / j)) x y H Q ∨ rI CDivW (fun i j => .int (i / j)) x y H Q
theorem op_divD : OpR X (binaryOp .FloorDiv) rDivD := OpR.or op_fdiv op_fdivW
theorem dDiv_ok {K : PySem.W.Frag} : OpD K rDivD dDiv where
  to := by
    intro F h H x y vx vy Q S rx ry q
    unfold dDiv at q
    split at q
    · cases rx; cases ry
      obtain ⟨⟨c0, c⟩, q⟩ := q
      rcases c with c | c
      · exact .inl ⟨_, _, rfl, rfl, ⟨c0, c⟩, q.at S (.int _)⟩
      · exact .inr ⟨_, _, rfl, rfl, ⟨c0, c⟩, q.at S (.int _)⟩
    · exact q.elim
  mo := by
    intro x y h Q Q' hq q
    unfold dDiv at *
    split at q
    · exact ⟨q.1, hq _ _ q.2⟩
    · exact q.elim
theorem dMod_ok {K : PySem.W.Frag} : OpD K (rI (fun _ j => 0 < j) fun i j => .int (i % j)) dMod where
  to := by
    intro F h H x y vx vy Q S rx ry q
    unfold dMod at q
    split at q
    · cases rx; cases ry; exact ⟨_, _, rfl, rfl, q.1, q.2.at S (.int _)⟩
    · exact q.elim
  mo := by
    intro x y h Q Q' hq q
    unfold dMod at *
    split at q
    · exact ⟨q.1, hq _ _ q.2⟩
    · exact q.elim
theorem dPow_ok {K : PySem.W.Frag} : OpD K (rI CPow fun i j => .int (i ^ j.toNat)) dPow where
  to := by
    intro F h H x y vx vy Q S rx ry q
    unfold dPow at q
    split at q
    · cases rx; cases ry; exact ⟨_, _, rfl, rfl, q.1, q.2.at S (.int _)⟩
    · exact q.elim
  mo := by
    intro x y h Q Q' hq q
    unfold dPow at *
    split at q
    · exact ⟨q.1, hq _ _ q.2⟩
    · exact q.elim
theorem dCmpI_ok {K : PySem.W.Frag} {f : Int → Int → Bool} : OpD K (rI0 fun i j => .bl (f i j)) (dCmpI f) where
  to := by
    intro F h H x y vx vy Q S rx ry q
    unfold dCmpI at q
    split at q
    · cases rx; cases ry; exact ⟨_, _, rfl, rfl, q.at S (.bl _)⟩
    · exact q.elim
  mo := by
    intro x y h Q Q' hq q
    unfold dCmpI at *
    split at q
    · exact hq _ _ q
    · exact q.elim
def rEqF (K : PySem.W.Frag) (f : Bool → Bool) : R2 := fun x y H Q => (scal x y = true ∧ Q (.bl (f (decide (x = y)))) H) ∨ ∃ d e, Dp K H x d ∧ Dp K H y e ∧ SeqAt.shaped d = true ∧ SeqAt.shaped e = true ∧ Q (.bl (f (PyData.eqv d e))) H
theorem op_eqF (hu : X.A.units + 64 < cLine) : OpR X (compareOp .Eq) (rEqF X.K fun b => b) := OpR.or op_eq (op_eqD hu)
theorem op_neF (hu : X.A.units + 64 < cLine) : OpR X (compareOp .NotEq) (rEqF X.K fun b => !b) := OpR.or op_ne (op_neD hu)
theorem dec_int {i j : Int} : decide (V.int i = V.int j) = decide (i = j) := by simp
theorem dec_str {i j : Str} : decide (V.str i = V.str j) = decide (i = j) := by simp
theorem dec_bl {i j : Bool} : decide (V.bl i = V.bl j) = decide (i = j) := by simp
theorem dEq_ok {K : PySem.W.Frag} {f : Bool → Bool} : OpD K (rEqF K f) (dEq f) where
  to := by
    intro F h H x y vx vy Q S rx ry q
    unfold dEq at q
    split at q
    · cases rx; cases ry; exact .inl ⟨rfl, by rw [dec_int]; exact q.at S (.bl _)⟩
    · cases rx; cases ry; exact .inl ⟨rfl, by rw [dec_str]; exact q.at S (.bl _)⟩
    · cases rx; cases ry; exact .inl ⟨rfl, by rw [dec_bl]; exact q.at S (.bl _)⟩
    · obtain ⟨c1, c2, c3, c4, q⟩ := q
      exact .inr ⟨_, _, S.curDp rx c1, S.curDp ry c2, c3, c4, q.at S (.bl _)⟩
  mo := by
    intro x y h Q Q' hq q
    unfold dEq at *
    split at q
    · exact hq _ _ q
    · exact hq _ _ q
    · exact hq _ _ q
    · obtain ⟨c1, c2, c3, c4, q⟩ := q
      exact ⟨c1, c2, c3, c4, hq _ _ q⟩
def rIsF (f : Bool → Bool) : R2 := fun x y H Q => (y = .non ∧ Q (.bl (f (decide (x = .non)))) H) ∨ ∃ a b : Bool, x = .bl a ∧ y = .bl b ∧ Q (.bl (f (decide (a = b)))) H
theorem op_notF : OpR X (compareOp .IsNot) (rIsF fun b => !b) := OpR.or op_notN op_notBl
theorem Rep.nonv {K : PySem.W.Frag} {F : Hp} {d : D} {v : V} (r : Rep K F d v) (h : d ≠ .non) : v ≠ .non := by
  cases r <;> first | exact absurd rfl h | (intro z; cases z)
theorem dIsN_ok {K : PySem.W.Frag} {f : Bool → Bool} : OpD K (rIsF f) (dIsN f) where
  to := by
    intro F h H x y vx vy Q S rx ry q
    unfold dIsN at q
    split at q
    · cases rx; cases ry; exact .inl ⟨rfl, q.at S (.bl _)⟩
    · cases rx; cases ry; exact .inr ⟨_, _, rfl, rfl, q.at S (.bl _)⟩
    · rename_i hx _
      cases ry
      have n : vx ≠ .non := rx.nonv (by intro e; subst e; simp_all)
      exact .inl ⟨rfl, by rw [decide_eq_false n]; exact q.at S (.bl _)⟩
    · exact q.elim
  mo := by
    intro x y h Q Q' hq q
    unfold dIsN at *
    split at q
    · exact hq _ _ q
    · exact hq _ _ q
    · exact hq _ _ q
    · exact q.elim
end
end DL
namespace DL
open PySem PySem.Spec L2
/-! ### expressions over data -/
def wC (d : D) : WE := fun _ h Q _ => Q d h
def wVar (i : Nat) : WE := fun ρ h Q _ => match ρ[i]? with
  | some (some d) => Q d h
  | _ => False
def wOp (f : D → D → AH → KD → Prop) (a b : WE) : WE := fun ρ h Q X => a ρ h (fun x h1 => b ρ h1 (fun y h2 => f x y h2 Q) X) X
def wNeg (a : WE) : WE := fun ρ h Q X => a ρ h (fun x h1 => match x with
  | .int i => Q (.int (-i)) h1
  | _ => False) X
def wChain (f g : D → D → AH → KD → Prop) (a b c : WE) : WE := fun ρ h Q X => a ρ h (fun x h1 => b ρ h1 (fun y h2 => f x y h2 fun z h3 => match z with
  | .bl k => if k = true then c ρ h3 (fun u h4 => g y u h4 Q) X else Q (.bl false) h3
  | _ => False) X) X
def wTest (a : WE) : WT := fun ρ h Q X => a ρ h (fun x h1 => match x with
  | .bl b => Q b h1
  | _ => False) X
def truD (h : AH) (x : D) : Option Bool := match cur h x with
  | .non => some false
  | .bl b => some b
  | .int i => some (i != 0)
  | .tup xs => some (!xs.isEmpty)
  | .tpl xs => some (!xs.isEmpty)
  | .lst xs => some (!xs.isEmpty)
  | .dK xs => some (!xs.isEmpty)
  | _ => none
def wAnd (a b : WT) : WT := fun ρ h Q X => a ρ h (fun c h1 => if c = true then b ρ h1 Q X else Q false h1) X
def wOr (a b : WT) : WT := fun ρ h Q X => a ρ h (fun c h1 => if c = true then Q true h1 else b ρ h1 Q X) X
def wNot (a : WT) : WT := fun ρ h Q X => a ρ h (fun c h1 => Q (!c) h1) X
def wAndV (a b : WE) : WE := fun ρ h Q X => a ρ h (fun x h1 => match x with
  | .bl c => if c = true then b ρ h1 Q X else Q (.bl false) h1
  | _ => False) X
def wNotV (a : WE) : WE := fun ρ h Q X => a ρ h (fun x h1 => match x with
  | .bl c => Q (.bl (!c)) h1
  | _ => False) X
def wIf (t : WT) (a b : WE) : WE := fun ρ h Q X => t ρ h (fun c h1 => if c = true then a ρ h1 Q X else b ρ h1 Q X) X
def wNil : WA := fun _ h Q _ => Q [] h
def wCons (a : WE) (r : WA) : WA := fun ρ h Q X => a ρ h (fun x h1 => r ρ h1 (fun xs h2 => Q (x :: xs) h2) X) X
def wTup (a : WA) : WE := fun ρ h Q X => a ρ h (fun xs h1 => xs.length ≤ sizeLine ∧ Q (.tup xs) h1) X
def wLst (m : Bool) (a : WA) : WE := fun ρ h Q X => a ρ h (fun xs h1 => xs.length ≤ sizeLine ∧ newL m xs h1 Q) X
def wCallP (S : FSpec) (n : Nat) (g : List D → List D → List D) (wa : WA) : WE := fun ρ h Q X => wa ρ h (fun ds h1 => ds.length = n ∧ S (g ds []) h1 Q X) X
/-- a built-in -/
def wB (r : List D → AH → KD → Prop) (a : WA) : WE := fun ρ h Q X => a ρ h (fun xs h1 => r xs h1 Q) X
section
variable {X : Cx} {E : XK} {k : Nat} {a b e : Expr} {es : List Expr} {wa wb wc : WE} {ta tb : WT} {wl : WA} {pos : Pos}
theorem ae_c {v : V} {d : D} (h : PE X e (tC v)) (r : ∀ F, Rep X.K F d v) : AE X E e (wC d) := by
  refine ⟨PE.imp h fun σ H Q ⟨F, ρ, g, S, R, q⟩ => ?_, fun ρ h Q Q' X X' hq _ q => hq _ _ q⟩
  exact LQ.at q S (r F)
theorem ae_int {i : Int} {j pos} : AE X E (.Constant (.int i) j pos) (wC (.int i)) := ae_c pe_int fun _ => .int i
theorem ae_bl {i : Bool} {j pos} : AE X E (.Constant (.bool i) j pos) (wC (.bl i)) := ae_c pe_bl fun _ => .bl i
theorem ae_non {j pos} : AE X E (.Constant .none j pos) (wC .non) := ae_c pe_non fun _ => .non
theorem ae_str {i : Str} {j pos} : AE X E (.Constant (.str i) j pos) (wC (.str i)) := ae_c pe_str fun _ => .str i
/-- what a name of the module holds -/
structure Cst (K : PySem.W.Frag) (mg : Str → Option Value) (x : Str) (d : D) : Prop where
  ex : ∃ v u, mg x = some u ∧ RelV v u ∧ ∀ F, Rep K F d v
theorem ae_glob {x : Str} {d : D} (c : Cst X.K X.mg x d) (hg : Gl X x := by rfl) (hd : (x == ("__debug__" : Str)) = false := by decide) : AE X E (.Name x pos) (wC d) := by
  obtain ⟨v, u, m, r, q⟩ := c.ex
  exact ae_c (pe_glob hg m r hd) q
theorem ae_ty {x : Str} {n : String} (hm : X.mg x = none) (hv : bootBuiltins x = some (.type n)) (hg : Gl X x := by rfl) (hn : x ≠ "__name__" := by decide) (hd : (x == ("__debug__" : Str)) = false := by decide) : AE X E (.Name x pos) (wC (.ty n)) :=
  ae_c (pe_bltn hg hm hv (v := .ty n) rfl hn hd) fun _ => .ty n
theorem ae_var (i : Nat) {x : Str} (hN : X.N[i]? = some x := by rfl) (hv : Vis X.env.scope x := by first | exact Or.inl rfl | exact Or.inr (Or.inl rfl) | exact Or.inr (Or.inr rfl))
    (hd : (x == ("__debug__" : Str)) = false := by decide) (hcd : (x == ("__classdict__" : Str)) = false := by decide) : AE X E (.Name x pos) (wVar i) := by
  refine ⟨PE.imp (pe_var hN hv hd hcd) fun σ H Q ⟨F, ρ, g, S, R, q⟩ => ?_, fun ρ h Q Q' X X' hq _ q => ?_⟩
  · unfold wVar at q
    split at q
    · rename_i d e
      obtain ⟨v, h1, h2⟩ := R.2 i d e
      exact ⟨v, h1, LQ.at q S h2⟩
    · exact q.elim
  · unfold wVar at *
    split at q
    · exact hq _ _ q
    · exact q.elim
/-- two expressions, then an operator of values -/
theorem two {r : R2} {f : D → D → AH → KD → Prop} (ok : OpD X.K r f) (ha : AE X E a wa) (hb : AE X E b wb) {σ : L2.St} {H : Hp} {Q : VK} (h : tE X.K E (wOp f wa wb) σ H Q) : tOp r (tE X.K E wa) (tE X.K E wb) σ H Q := by
  obtain ⟨F, ρ, g, S, R, q⟩ := h
  refine ⟨F, ρ, g, S, R, ha.mo _ _ _ _ _ _ (fun x h1 hx => ?_) (fun _ _ z => z) q⟩
  intro F1 H1 vx e1 S1 rx
  refine ⟨F1, ρ, h1, S1, R.ext e1, hb.mo _ _ _ _ _ _ (fun y h2 hf => ?_) (fun _ _ z => LX.ext e1 z) hx⟩
  intro F2 H2 vy e2 S2 ry
  exact ok.to S2 (rx.ext e2) ry (ok.mo (fun _ _ z => LQ.ext (e1.trans e2) z) hf)
theorem mo_op {f : D → D → AH → KD → Prop} (mo : ∀ {x y h} {Q Q' : KD}, (∀ d h, Q d h → Q' d h) → f x y h Q → f x y h Q') (ma : MoE wa) (mb : MoE wb) : MoE (wOp f wa wb) := fun ρ h Q Q' X X' hq hx q =>
  ma _ _ _ _ _ _ (fun x h1 q1 => mb _ _ _ _ _ _ (fun y h2 q2 => mo hq q2) hx q1) hx q
theorem ae_bin {op : Operator} {r : R2} {f : D → D → AH → KD → Prop} (ok : OpD X.K r f) (ho : OpR X (binaryOp op) r) (ha : AE X E a wa) (hb : AE X E b wb) : AE X E (.BinOp a op b pos) (wOp f wa wb) :=
  ⟨PE.imp (pe_op ho ha.run hb.run) fun σ H Q h => two ok ha hb h, mo_op ok.mo ha.mo hb.mo⟩
theorem ae_add (m : Bool) (ha : AE X E a wa) (hb : AE X E b wb) : AE X E (.BinOp a .Add b pos) (wOp (dAdd m) wa wb) := ae_bin dAdd_ok op_addD ha hb
theorem ae_sub (ha : AE X E a wa) (hb : AE X E b wb) : AE X E (.BinOp a .Sub b pos) (wOp dSub wa wb) := ae_bin dSub_ok op_sub ha hb
theorem ae_mul (m : Bool) (ha : AE X E a wa) (hb : AE X E b wb) : AE X E (.BinOp a .Mult b pos) (wOp (dMul m) wa wb) := ae_bin (r := rMul X.K) dMul_ok op_mulD ha hb
theorem ae_div (ha : AE X E a wa) (hb : AE X E b wb) : AE X E (.BinOp a .FloorDiv b pos) (wOp dDiv wa wb) := ae_bin dDiv_ok op_divD ha hb
theorem ae_mod (ha : AE X E a wa) (hb : AE X E b wb) : AE X E (.BinOp a .Mod b pos) (wOp dMod wa wb) := ae_bin dMod_ok op_mod ha hb
theorem ae_pow (ha : AE X E a wa) (hb : AE X E b wb) : AE X E (.BinOp a .Pow b pos) (wOp dPow wa wb) := ae_bin dPow_ok op_pow ha hb
theorem ae_neg (ha : AE X E a wa) : AE X E (.UnaryOp .USub a pos) (wNeg wa) := by
  refine ⟨PE.imp (pe_un un_neg ha.run) fun σ H Q ⟨F, ρ, g, S, R, q⟩ => ?_, fun ρ h Q Q' X X' hq hx q => ?_⟩
  · refine ⟨F, ρ, g, S, R, ha.mo _ _ _ _ _ _ (fun x h1 hx => ?_) (fun _ _ z => z) q⟩
    intro F1 H1 vx e1 S1 rx
    split at hx
    · cases rx; exact ⟨_, rfl, hx F1 H1 _ e1 S1 (.int _)⟩
    · exact hx.elim
  · refine ha.mo _ _ _ _ _ _ (fun x h1 q1 => ?_) hx q
    split at q1
    · exact hq _ _ q1
    · exact q1.elim
theorem ae_cmp {op : CmpOp} {r : R2} {f : D → D → AH → KD → Prop} (ok : OpD X.K r f) (ho : OpR X (compareOp op) r) (ha : AE X E a wa) (hb : AE X E b wb) (hm : behindInMarks op b = false := by first | exact nobehind _ (by decide) (by decide) | rfl) : AE X E (.Compare a [op] [b] pos) (wOp f wa wb) :=
  ⟨PE.imp (pe_cmpR ho ha.run hb.run hm) fun σ H Q h => two ok ha hb h, mo_op ok.mo ha.mo hb.mo⟩
theorem ae_lt (ha : AE X E a wa) (hb : AE X E b wb) : AE X E (.Compare a [.Lt] [b] pos) (wOp (dCmpI fun i j => decide (i < j)) wa wb) := ae_cmp dCmpI_ok op_lt ha hb
theorem ae_gt (ha : AE X E a wa) (hb : AE X E b wb) : AE X E (.Compare a [.Gt] [b] pos) (wOp (dCmpI fun i j => decide (j < i)) wa wb) := ae_cmp dCmpI_ok op_gt ha hb
theorem ae_eq (c : Cg gz X E k) (ha : AE X E a wa) (hb : AE X E b wb) : AE X E (.Compare a [.Eq] [b] pos) (wOp (dEq fun b => b) wa wb) := ae_cmp dEq_ok (op_eqF c.room.units) ha hb
theorem mo_chain {f g : D → D → AH → KD → Prop} (mf : ∀ {x y h} {Q Q' : KD}, (∀ d h, Q d h → Q' d h) → f x y h Q → f x y h Q') (mg : ∀ {x y h} {Q Q' : KD}, (∀ d h, Q d h → Q' d h) → g x y h Q → g x y h Q') (ma : MoE wa) (mb : MoE wb) (mc : MoE wc) : MoE (wChain f g wa wb wc) := fun ρ h Q Q' X X' hq hx q =>
  ma _ _ _ _ _ _ (fun x h1 q1 => mb _ _ _ _ _ _ (fun y h2 q2 => mf (fun z h3 q3 => by
    split at q3
    · split at q3
      · rename_i c; simp only [c, if_true]; exact mc _ _ _ _ _ _ (fun u h4 q4 => mg hq q4) hx q3
      · rename_i c; simp only [if_neg c]; exact hq _ _ q3
    · exact q3.elim) q2) hx q1) hx q
/-! ### tests -/
theorem at_val (ha : AE X E a wa) (he : ∀ whole, isTrue a X.env whole = (do let v ← whole; standAt a.pos; holding [v] (truthy v)) := by intro _; rfl) : AT X E a (wTest wa) := by
  refine ⟨PT.imp (pt_val ha.run he) fun σ H Q ⟨F, ρ, g, S, R, q⟩ => ?_, fun ρ h Q Q' X X' hq hx q => ?_⟩
  · refine ⟨F, ρ, g, S, R, ha.mo _ _ _ _ _ _ (fun x h1 hx => ?_) (fun _ _ z => z) q⟩
    intro F1 H1 vx e1 S1 rx
    split at hx
    · cases rx; exact ⟨_, rfl, hx F1 H1 e1 S1⟩
    · exact hx.elim
  · refine ha.mo _ _ _ _ _ _ (fun x h1 q1 => ?_) hx q
    split at q1
    · exact hq _ _ q1
    · exact q1.elim
theorem at_cmp {op : CmpOp} {r : R2} {f : D → D → AH → KD → Prop} (ok : OpD X.K r f) (ho : OpR X (compareOp op) r) (ha : AE X E a wa) (hb : AE X E b wb) (hm : behindInMarks op b = false := by first | exact nobehind _ (by decide) (by decide) | rfl) : AT X E (.Compare a [op] [b] pos) (wTest (wOp f wa wb)) := by
  have M : MoE (wOp f wa wb) := mo_op ok.mo ha.mo hb.mo
  refine ⟨PT.imp (pt_cmpR ho ha.run hb.run hm) fun σ H Q ⟨F, ρ, g, S, R, q⟩ => ?_, fun ρ h Q Q' X X' hq hx q => ?_⟩
  · refine two ok ha hb ⟨F, ρ, g, S, R, M _ _ _ _ _ _ (fun x h1 hx => ?_) (fun _ _ z => z) q⟩
    intro F1 H1 vx e1 S1 rx
    split at hx
    · cases rx; exact ⟨_, rfl, hx F1 H1 e1 S1⟩
    · exact hx.elim
  · refine M _ _ _ _ _ _ (fun x h1 q1 => ?_) hx q
    split at q1
    · exact hq _ _ q1
    · exact q1.elim
theorem at_lt (ha : AE X E a wa) (hb : AE X E b wb) : AT X E (.Compare a [.Lt] [b] pos) (wTest (wOp (dCmpI fun i j => decide (i < j)) wa wb)) := at_cmp dCmpI_ok op_lt ha hb
theorem at_gt (ha : AE X E a wa) (hb : AE X E b wb) : AT X E (.Compare a [.Gt] [b] pos) (wTest (wOp (dCmpI fun i j => decide (j < i)) wa wb)) := at_cmp dCmpI_ok op_gt ha hb
theorem at_ge (ha : AE X E a wa) (hb : AE X E b wb) : AT X E (.Compare a [.GtE] [b] pos) (wTest (wOp (dCmpI fun i j => decide (j ≤ i)) wa wb)) := at_cmp dCmpI_ok op_ge ha hb
theorem at_eq (c : Cg gz X E k) (ha : AE X E a wa) (hb : AE X E b wb) : AT X E (.Compare a [.Eq] [b] pos) (wTest (wOp (dEq fun b => b) wa wb)) := at_cmp dEq_ok (op_eqF c.room.units) ha hb
theorem at_ne (c : Cg gz X E k) (ha : AE X E a wa) (hb : AE X E b wb) : AT X E (.Compare a [.NotEq] [b] pos) (wTest (wOp (dEq fun b => !b) wa wb)) := at_cmp dEq_ok (op_neF c.room.units) ha hb
theorem at_isnot (ha : AE X E a wa) (hb : AE X E b wb) : AT X E (.Compare a [.IsNot] [b] pos) (wTest (wOp (dIsN fun b => !b) wa wb)) := at_cmp dIsN_ok op_notF ha hb
theorem mo_and {a b : WT} (ma : MoT a) (mb : MoT b) : MoT (wAnd a b) := fun ρ h Q Q' X X' hq hx q => ma _ _ _ _ _ _ (fun c h1 q1 => by
  split at q1
  · rename_i e; rw [if_pos e]; exact mb _ _ _ _ _ _ hq hx q1
  · rename_i e; rw [if_neg e]; exact hq _ _ q1) hx q
theorem mo_or {a b : WT} (ma : MoT a) (mb : MoT b) : MoT (wOr a b) := fun ρ h Q Q' X X' hq hx q => ma _ _ _ _ _ _ (fun c h1 q1 => by
  split at q1
  · rename_i e; rw [if_pos e]; exact hq _ _ q1
  · rename_i e; rw [if_neg e]; exact mb _ _ _ _ _ _ hq hx q1) hx q
theorem AW.at (h : AW X E a ta) : AT X E a ta := ⟨h.run.pt, h.mo⟩
theorem aw_and1 (ha : AT X E a ta) : AW X E (.BoolOp .And [a] pos) ta := ⟨pw_and1 ha.run, ha.mo⟩
theorem aw_or1 (ha : AT X E a ta) : AW X E (.BoolOp .Or [a] pos) ta := ⟨pw_or1 ha.run, ha.mo⟩
theorem aw_and {rest : List Expr} (ha : AT X E a ta) (hb : AW X E (.BoolOp .And (b :: rest) pos) tb) : AW X E (.BoolOp .And (a :: b :: rest) pos) (wAnd ta tb) := by
  refine ⟨PW.imp (pw_and ha.run hb.run) fun σ H Q ⟨F, ρ, g, S, R, q⟩ => ?_, mo_and ha.mo hb.mo⟩
  refine ⟨F, ρ, g, S, R, ha.mo _ _ _ _ _ _ (fun x h1 hx => ?_) (fun _ _ z => z) q⟩
  intro F1 H1 e1 S1
  split at hx
  · rename_i e; rw [if_pos e]
    exact ⟨F1, ρ, h1, S1, R.ext e1, hb.mo _ _ _ _ _ _ (fun _ _ z => LB.ext e1 z) (fun _ _ z => LX.ext e1 z) hx⟩
  · rename_i e; rw [if_neg e]
    exact hx F1 H1 e1 S1
theorem aw_or {rest : List Expr} (ha : AT X E a ta) (hb : AW X E (.BoolOp .Or (b :: rest) pos) tb) : AW X E (.BoolOp .Or (a :: b :: rest) pos) (wOr ta tb) := by
  refine ⟨PW.imp (pw_or ha.run hb.run) fun σ H Q ⟨F, ρ, g, S, R, q⟩ => ?_, mo_or ha.mo hb.mo⟩
  refine ⟨F, ρ, g, S, R, ha.mo _ _ _ _ _ _ (fun x h1 hx => ?_) (fun _ _ z => z) q⟩
  intro F1 H1 e1 S1
  split at hx
  · rename_i e; rw [if_pos e]
    exact hx F1 H1 e1 S1
  · rename_i e; rw [if_neg e]
    exact ⟨F1, ρ, h1, S1, R.ext e1, hb.mo _ _ _ _ _ _ (fun _ _ z => LB.ext e1 z) (fun _ _ z => LX.ext e1 z) hx⟩
theorem at_not (ha : AT X E a ta) : AT X E (.UnaryOp .Not a pos) (wNot ta) := by
  refine ⟨PT.imp (pt_not ha.run) fun σ H Q ⟨F, ρ, g, S, R, q⟩ => ?_, fun ρ h Q Q' X X' hq hx q => ha.mo _ _ _ _ _ _ (fun c h1 q1 => hq _ _ q1) hx q⟩
  exact ⟨F, ρ, g, S, R, ha.mo _ _ _ _ _ _ (fun x h1 hx F1 H1 e1 S1 => hx F1 H1 e1 S1) (fun _ _ z => z) q⟩
/-! ### and, or, not as values -/
theorem ae_one {op} (ha : AE X E a wa) : AE X E (.BoolOp op [a] pos) wa := ⟨pe_one ha.run, ha.mo⟩
theorem ae_and {rest : List Expr} (ha : AE X E a wa) (hb : AE X E (.BoolOp .And (b :: rest) pos) wb) : AE X E (.BoolOp .And (a :: b :: rest) pos) (wAndV wa wb) := by
  refine ⟨PE.imp (pe_and ha.run hb.run) fun σ H Q ⟨F, ρ, g, S, R, q⟩ => ?_, fun ρ h Q Q' X X' hq hx q => ?_⟩
  · refine ⟨F, ρ, g, S, R, ha.mo _ _ _ _ _ _ (fun x h1 hx => ?_) (fun _ _ z => z) q⟩
    intro F1 H1 vx e1 S1 rx
    split at hx
    · cases rx
      refine ⟨_, rfl, ?_⟩
      split at hx
      · rename_i e; rw [if_pos e]
        exact ⟨F1, ρ, h1, S1, R.ext e1, hb.mo _ _ _ _ _ _ (fun _ _ z => LQ.ext e1 z) (fun _ _ z => LX.ext e1 z) hx⟩
      · rename_i e; rw [if_neg e]
        exact hx F1 H1 _ e1 S1 (.bl _)
    · exact hx.elim
  · refine ha.mo _ _ _ _ _ _ (fun x h1 q1 => ?_) hx q
    split at q1
    · split at q1
      · rename_i e; simp only [if_pos e]; exact hb.mo _ _ _ _ _ _ hq hx q1
      · rename_i e; simp only [if_neg e]; exact hq _ _ q1
    · exact q1.elim
theorem ae_not (ha : AE X E a wa) : AE X E (.UnaryOp .Not a pos) (wNotV wa) := by
  refine ⟨PE.imp (pe_not ha.run) fun σ H Q ⟨F, ρ, g, S, R, q⟩ => ?_, fun ρ h Q Q' X X' hq hx q => ?_⟩
  · refine ⟨F, ρ, g, S, R, ha.mo _ _ _ _ _ _ (fun x h1 hx => ?_) (fun _ _ z => z) q⟩
    intro F1 H1 vx e1 S1 rx
    split at hx
    · cases rx; exact ⟨_, rfl, hx F1 H1 _ e1 S1 (.bl _)⟩
    · exact hx.elim
  · refine ha.mo _ _ _ _ _ _ (fun x h1 q1 => ?_) hx q
    split at q1
    · exact hq _ _ q1
    · exact q1.elim
theorem ae_if {c : Expr} (hc : AT X E c ta) (ha : AE X E a wa) (hb : AE X E b wb) : AE X E (.IfExp c a b pos) (wIf ta wa wb) := by
  refine ⟨PE.imp (pe_ifExp hc.run ha.run hb.run) fun σ H Q ⟨F, ρ, g, S, R, q⟩ => ?_, fun ρ h Q Q' X X' hq hx q => hc.mo _ _ _ _ _ _ (fun c h1 q1 => ?_) hx q⟩
  · refine ⟨F, ρ, g, S, R, hc.mo _ _ _ _ _ _ (fun x h1 hx => ?_) (fun _ _ z => z) q⟩
    intro F1 H1 e1 S1
    split at hx
    · rename_i e; rw [if_pos e]
      exact ⟨F1, ρ, h1, S1, R.ext e1, ha.mo _ _ _ _ _ _ (fun _ _ z => LQ.ext e1 z) (fun _ _ z => LX.ext e1 z) hx⟩
    · rename_i e; rw [if_neg e]
      exact ⟨F1, ρ, h1, S1, R.ext e1, hb.mo _ _ _ _ _ _ (fun _ _ z => LQ.ext e1 z) (fun _ _ z => LX.ext e1 z) hx⟩
  · split at q1
    · rename_i e; rw [if_pos e]; exact ha.mo _ _ _ _ _ _ hq hx q1
    · rename_i e; rw [if_neg e]; exact hb.mo _ _ _ _ _ _ hq hx q1
/-! ### argument lists, displays -/
theorem aa_nil : AA X E [] wNil := ⟨PA.imp pa_nil fun σ H Q ⟨F, ρ, g, S, R, q⟩ => q F H [] (.refl F) S .nil, fun ρ h Q Q' X X' hq hx q => hq _ _ q⟩
theorem aa_cons (ha : AE X E e wa) (hr : AA X E es wl) (hs : starEach (e :: es) X.env = (false, eval e X.env) :: starEach es X.env := by rfl) : AA X E (e :: es) (wCons wa wl) := by
  refine ⟨PA.imp (pa_cons ha.run hr.run hs) fun σ H Q ⟨F, ρ, g, S, R, q⟩ => ?_, fun ρ h Q Q' X X' hq hx q => ha.mo _ _ _ _ _ _ (fun x h1 q1 => hr.mo _ _ _ _ _ _ (fun xs h2 q2 => hq _ _ q2) hx q1) hx q⟩
  refine ⟨F, ρ, g, S, R, ha.mo _ _ _ _ _ _ (fun x h1 hx => ?_) (fun _ _ z => z) q⟩
  intro F1 H1 vx e1 S1 rx
  refine ⟨F1, ρ, h1, S1, R.ext e1, hr.mo _ _ _ _ _ _ (fun xs h2 h3 => ?_) (fun _ _ z => LX.ext e1 z) hx⟩
  intro F2 H2 vs e2 S2 rs
  exact h3 F2 H2 _ (e1.trans e2) S2 (.cons (rx.ext e2) rs)
theorem ae_tup {x1} (h : AA X E es wl) : AE X E (.Tuple es x1 pos) (wTup wl) := by
  refine ⟨PE.imp (pe_tup h.run) fun σ H Q ⟨F, ρ, g, S, R, q⟩ => ?_, fun ρ h0 Q Q' X X' hq hx q => h.mo _ _ _ _ _ _ (fun x h1 q1 => ⟨q1.1, hq _ _ q1.2⟩) hx q⟩
  refine ⟨F, ρ, g, S, R, h.mo _ _ _ _ _ _ (fun xs h1 hx => ?_) (fun _ _ z => z) q⟩
  intro F1 H1 vs e1 S1 rs
  exact ⟨by rw [← rs.length]; exact hx.1, S1.newT rs (LQ.ext e1 hx.2)⟩
theorem ae_lst (m : Bool) (h : AA X E es wl) : AE X E (.List es pos) (wLst m wl) := by
  refine ⟨PE.imp (pe_lst h.run) fun σ H Q ⟨F, ρ, g, S, R, q⟩ => ?_, fun ρ h0 Q Q' X X' hq hx q => h.mo _ _ _ _ _ _ (fun x h1 q1 => ⟨q1.1, newL_mo hq q1.2⟩) hx q⟩
  refine ⟨F, ρ, g, S, R, h.mo _ _ _ _ _ _ (fun xs h1 hx => ?_) (fun _ _ z => z) q⟩
  intro F1 H1 vs e1 S1 rs
  exact ⟨by rw [← rs.length]; exact hx.1, S1.newL rs (newL_mo (fun _ _ z => LQ.ext e1 z) hx.2)⟩
/-! ### calls -/
theorem ae_call {n j : Nat} {gg : List D → List D → List D} {S : FSpec} {x : Str} {p : Pos} (c : Cg gz X E k) (C : Cal gy X.prog X.w X.K X.mg X.base x j n [] gg S) (hj : j ≤ k) (hz : gy = true → gz = true) (ha : AA X E (e :: es) wl)
    (hg : Gl X x := by rfl) (hdb : (x == ("__debug__" : Str)) = false := by decide) (he : starEach (e :: es) X.env = (false, eval e X.env) :: starEach es X.env := by rfl)
    (hpl : (backTo pos (starEach es X.env)).any (·.1) = false := by rfl) : AE X E (.Call (.Name x p) (e :: es) [] pos) (wCallP S n gg wl) := by
  obtain ⟨f, fd, ps, hm, hk, G, B⟩ := C.ex
  refine ⟨⟨fun pins s σ H Q I hq => ?_⟩, fun ρ h0 Q Q' X X' hq hx q => ha.mo _ _ _ _ _ _ (fun x h1 q1 => ⟨q1.1, G.mo _ _ _ _ _ _ hq hx q1.2⟩) hx q⟩
  obtain ⟨F, ρ, g, S0, R, q⟩ := hq
  refine wpAny_Call_Name_kw (ld_glob I hg hm ?_ hdb)
  refine PySem.W.callWith_K (h₀ := X.base) I.ok.mod.kin hk
    (thn (ha.run.run pos pins s σ H (fun vs H1 => ∃ F1 h1 ds, Sim X.K F1 h1 H1 ∧ Reps X.K F1 ds vs ∧ ds.length = n ∧ S (gg ds []) h1 (LQ X.K F1 Q) (LX X.K F1 E)) I
      ⟨F, ρ, g, S0, R, ha.mo _ _ _ _ _ _ (fun ds h1 q1 F1 H1 vs e1 S1 rs => ⟨F1, h1, ds, S1, rs, q1.1, G.mo _ _ _ _ _ _ (fun _ _ z => LQ.ext e1 z) (fun _ _ z => LX.ext e1 z) q1.2⟩) (fun _ _ z => z) q⟩) fun us s1 hh => ?_) he hpl
  obtain ⟨vs, H1, I1, r1, F1, h1, ds, S1, rs, l, q1⟩ := hh
  refine ⟨I1.kIn, ?_⟩
  obtain ⟨xs, ts, rx, rt, bt⟩ := B.to s1 F1 ds [] vs [] us [] I1.kIn l rfl rs r1 .nil .nil
  exact wpAny_call (codeAny_mono (run_g (c.mono hj) G hz I1 bt rt ⟨F1, _, h1, S1, rx, q1⟩) fun r s' hr => by
    match r, hr with
    | .error _, hr => exact hr
    | .ok (.ret _), hr => exact hr)
/-- a built-in by values -/
structure CaD (X : Cx) (f : Value) (r : List D → AH → KD → Prop) : Prop where
  ex : ∃ rv, CallR X f rv ∧ ∀ {F h H ds vs} {Q : VK}, Sim X.K F h H → Reps X.K F ds vs → r ds h (LQ X.K F Q) → rv vs H Q
  mo : ∀ {ds h} {Q Q' : KD}, (∀ d h, Q d h → Q' d h) → r ds h Q → r ds h Q'
theorem ae_b {id : String} {x : Str} {p : Pos} {r : List D → AH → KD → Prop} (C : CaD X (.builtin id) r) (hm : X.mg x = none) (hv : bootBuiltins x = some (.builtin id)) (ha : AA X E (e :: es) wl)
    (hg : Gl X x := by rfl) (hn : x ≠ "__name__" := by decide) (hdb : (x == ("__debug__" : Str)) = false := by decide)
    (he : starEach (e :: es) X.env = (false, eval e X.env) :: starEach es X.env := by rfl) (hpl : (backTo pos (starEach es X.env)).any (·.1) = false := by rfl) : AE X E (.Call (.Name x p) (e :: es) [] pos) (wB r wl) := by
  obtain ⟨rv, hc, to⟩ := C.ex
  refine ⟨PE.imp (pe_callB hc hg hm hv ha.run hn hdb he hpl) fun σ H Q ⟨F, ρ, g, S, R, q⟩ => ?_, fun ρ h0 Q Q' X X' hq hx q => ha.mo _ _ _ _ _ _ (fun x h1 q1 => C.mo hq q1) hx q⟩
  exact ⟨F, ρ, g, S, R, ha.mo _ _ _ _ _ _ (fun ds h1 q1 F1 H1 vs e1 S1 rs => to S1 rs (C.mo (fun _ _ z => LQ.ext e1 z) q1)) (fun _ _ z => z) q⟩
theorem ae_bt {T : String} {x : Str} {p : Pos} {r : List D → AH → KD → Prop} (C : CaD X (.type T) r) (hm : X.mg x = none) (hv : bootBuiltins x = some (.type T)) (ha : AA X E (e :: es) wl)
    (hg : Gl X x := by rfl) (hn : x ≠ "__name__" := by decide) (hdb : (x == ("__debug__" : Str)) = false := by decide)
    (he : starEach (e :: es) X.env = (false, eval e X.env) :: starEach es X.env := by rfl) (hpl : (backTo pos (starEach es X.env)).any (·.1) = false := by rfl) : AE X E (.Call (.Name x p) (e :: es) [] pos) (wB r wl) := by
  obtain ⟨rv, hc, to⟩ := C.ex
  refine ⟨PE.imp (pe_callTy hc hg hm hv ha.run hn hdb he hpl) fun σ H Q ⟨F, ρ, g, S, R, q⟩ => ?_, fun ρ h0 Q Q' X X' hq hx q => ha.mo _ _ _ _ _ _ (fun x h1 q1 => C.mo hq q1) hx q⟩
  exact ⟨F, ρ, g, S, R, ha.mo _ _ _ _ _ _ (fun ds h1 q1 F1 H1 vs e1 S1 rs => to S1 rs (C.mo (fun _ _ z => LQ.ext e1 z) q1)) (fun _ _ z => z) q⟩
end
end DL
namespace DL
open PySem PySem.Spec L2
/-! ### statements over data -/
def wSkip : WS := fun D ρ h => D.nx ρ h
def wSeq (a b : WS) : WS := fun D ρ h => a { D with nx := b D } ρ h
def wExpr (a : WE) : WS := fun D ρ h => a ρ h (fun _ h1 => D.nx ρ h1) D.ex
def wRet (a : WE) : WS := fun D ρ h => a ρ h D.rt D.ex
def wRetN : WS := fun D _ h => D.rt .non h
def wIfS (t : WT) (a b : WS) : WS := fun D ρ h => t ρ h (fun c h1 => if c = true then a D ρ h1 else b D ρ h1) D.ex
def wNever : WS := fun _ _ _ => False
abbrev WG := D → EnvD → AH → (EnvD → AH → Prop) → KX → Prop
abbrev WGs := List D → EnvD → AH → (EnvD → AH → Prop) → KX → Prop
def gN (i : Nat) : WG := fun d ρ h Q _ => Q (ρ.set i (some d)) h
def gsNil : WGs := fun ds ρ h Q _ => ds = [] ∧ Q ρ h
def gsCons (g : WG) (r : WGs) : WGs := fun ds ρ h Q X => ∃ d ds', ds = d :: ds' ∧ g d ρ h (fun ρ1 h1 => r ds' ρ1 h1 Q X) X
def gT (n : Nat) (r : WGs) : WG := fun d ρ h Q X => ∃ xs, d = .tup xs ∧ xs.length = n ∧ r xs ρ h Q X
def wAsg (a : WE) (g : WG) : WS := fun D ρ h => a ρ h (fun x h1 => g x ρ h1 D.nx D.ex) D.ex
def wPar (i j : Nat) (a : WA) : WS := fun D ρ h => a ρ h (fun ds h1 => ∃ x y, ds = [x, y] ∧ D.nx ((ρ.set i (some x)).set j (some y)) h1) D.ex
def MoG (g : WG) : Prop := ∀ d ρ h Q Q' X X', (∀ ρ h, Q ρ h → Q' ρ h) → (∀ x h, X x h → X' x h) → g d ρ h Q X → g d ρ h Q' X'
def MoGs (g : WGs) : Prop := ∀ d ρ h Q Q' X X', (∀ ρ h, Q ρ h → Q' ρ h) → (∀ x h, X x h → X' x h) → g d ρ h Q X → g d ρ h Q' X'
def tG (K : PySem.W.Frag) (E : XK) (g : WG) : TG := fun v σ H Q => ∃ F ρ h d, Sim K F h H ∧ EnvR K F ρ σ ∧ Rep K F d v ∧ g d ρ h (LS K F Q) (LX K F E)
def tGs (K : PySem.W.Frag) (E : XK) (g : WGs) : TGs := fun v σ H Q => ∃ F ρ h d, Sim K F h H ∧ EnvR K F ρ σ ∧ Reps K F d v ∧ g d ρ h (LS K F Q) (LX K F E)
structure AG (X : Cx) (E : XK) (e : Expr) (g : WG) : Prop where
  run : PG X e (tG X.K E g)
  mo : MoG g
structure AGs (X : Cx) (E : XK) (es : List Expr) (g : WGs) : Prop where
  run : PGs X es (tGs X.K E g)
  mo : MoGs g
theorem PG.imp {X : Cx} {e : Expr} {t t' : TG} (p : PG X e t) (h : ∀ v σ H Q, t' v σ H Q → t v σ H Q) : PG X e t' := ⟨fun pins s σ H v u Q I r q => p.run pins s σ H v u Q I r (h _ _ _ _ q)⟩
theorem PGs.imp {X : Cx} {e : List Expr} {t t' : TGs} (p : PGs X e t) (h : ∀ v σ H Q, t' v σ H Q → t v σ H Q) : PGs X e t' := ⟨fun pins s σ H v u Q I r q => p.run pins s σ H v u Q I r (h _ _ _ _ q)⟩
section
variable {X : Cx} {E : XK} {k : Nat} {a b e : Expr} {es : List Expr} {wa wb wc : WE} {ta : WT} {wl : WA} {pos : Pos} {st : Stmt} {rest : List Stmt} {s1 s2 : WS}
theorem Le.nx {D D' : EndsD} (l : D.Le D') (q : ∀ ρ h, D.nx ρ h → D'.nx ρ h) : D.Le D' := ⟨q, l.rt, l.bk, l.ct, l.ex⟩
theorem ass_nil : ASs X E [] wSkip := ⟨PSs.imp pss_nil fun D σ H ⟨F, ρ, h, S, R, q⟩ => q F H σ (.refl F) S R, fun D D' ρ h l q => l.nx _ _ q⟩
theorem mo_seq (h1 : MoS s1) (h2 : MoS s2) : MoS (wSeq s1 s2) := fun D D' ρ h l q => h1 { D with nx := s2 D } { D' with nx := s2 D' } _ _ ⟨fun ρ h z => h2 _ _ _ _ l z, l.rt, l.bk, l.ct, l.ex⟩ q
theorem ass_cons (h1 : AS X E st s1) (h2 : ASs X E rest s2) : ASs X E (st :: rest) (wSeq s1 s2) := by
  refine ⟨PSs.imp (pss_cons h1.run h2.run) fun D σ H ⟨F, ρ, h, S, R, q⟩ => ?_, mo_seq h1.mo h2.mo⟩
  refine ⟨F, ρ, h, S, R, h1.mo { LD X.K F D E with nx := s2 (LD X.K F D E) } _ _ _ ⟨fun ρ1 g1 z => ?_, fun _ _ z => z, fun _ _ z => z, fun _ _ z => z, fun _ _ z => z⟩ q⟩
  intro F1 H1 σ1 e1 S1 R1
  exact ⟨F1, ρ1, g1, S1, R1, h2.mo _ _ _ _ (LD.ext e1) z⟩
theorem ass_one (h1 : AS X E st s1) : ASs X E [st] s1 := ⟨PSs.imp (pss_one h1.run) fun D σ H q => q, h1.mo⟩
theorem as_expr (he : AE X E e wa) (hs : swapsWith e none pos.line X.env = pure false := by rfl) : AS X E (.Expr e pos) (wExpr wa) := by
  refine ⟨PS.imp (ps_expr he.run hs) fun D σ H ⟨F, ρ, h, S, R, q⟩ => ?_, fun D D' ρ h l q => he.mo _ _ _ _ _ _ (fun _ _ z => l.nx _ _ z) l.ex q⟩
  refine ⟨F, ρ, h, S, R, he.mo _ _ _ _ _ _ (fun d h1 z => ?_) (fun _ _ z => z) q⟩
  intro F1 H1 v e1 S1 _
  exact z F1 H1 σ e1 S1 (R.ext e1)
theorem as_ret (he : AE X E e wa) : AS X E (.Return (some e) pos) (wRet wa) :=
  ⟨PS.imp (ps_ret he.run) fun D σ H ⟨F, ρ, h, S, R, q⟩ => ⟨F, ρ, h, S, R, q⟩, fun D D' ρ h l q => he.mo _ _ _ _ _ _ l.rt l.ex q⟩
theorem as_if {c : Expr} {A B : List Stmt} (hc : AT X E c ta) (ha : ASs X E A s1) (hb : ASs X E B s2) : AS X E (.If c A B pos) (wIfS ta s1 s2) := by
  refine ⟨PS.imp (ps_if hc.run ha.run hb.run) fun D σ H ⟨F, ρ, h, S, R, q⟩ => ?_, fun D D' ρ h l q => hc.mo _ _ _ _ _ _ (fun c h1 q1 => ?_) l.ex q⟩
  · refine ⟨F, ρ, h, S, R, hc.mo _ _ _ _ _ _ (fun x h1 hx => ?_) (fun _ _ z => z) q⟩
    intro F1 H1 e1 S1
    split at hx
    · rename_i e; rw [if_pos e]; exact ⟨F1, ρ, h1, S1, R.ext e1, ha.mo _ _ _ _ (LD.ext e1) hx⟩
    · rename_i e; rw [if_neg e]; exact ⟨F1, ρ, h1, S1, R.ext e1, hb.mo _ _ _ _ (LD.ext e1) hx⟩
  · split at q1
    · rename_i e; rw [if_pos e]; exact ha.mo _ _ _ _ l q1
    · rename_i e; rw [if_neg e]; exact hb.mo _ _ _ _ l q1
/-! ### targets -/
theorem ag_name (i : Nat) {x : Str} (hN : X.N.Nodup) (hi : X.N[i]? = some x := by rfl) (hx : Loc X.env.scope x := by first | exact Or.inl rfl | exact Or.inr rfl) (hf : X.fn x = true ∨ X.env.scope.names.lookup x = some .local := by first | exact .inl rfl | exact .inr rfl) : AG X E (.Name x pos) (gN i) := by
  refine ⟨PG.imp (pg_name hN hi hx hf) fun v σ H Q ⟨F, ρ, h, d, S, R, r, q⟩ => q F H _ (.refl F) S (R.set r i), fun d ρ h Q Q' X X' hq _ q => hq _ _ q⟩
theorem ags_nil : AGs X E [] gsNil := by
  refine ⟨PGs.imp pgs_nil fun v σ H Q ⟨F, ρ, h, d, S, R, r, q⟩ => ?_, fun d ρ h Q Q' X X' hq _ q => ⟨q.1, hq _ _ q.2⟩⟩
  obtain ⟨rfl, q⟩ := q
  cases r
  exact ⟨rfl, q F H _ (.refl F) S R⟩
theorem ags_cons {g : WG} {gr : WGs} (h1 : AG X E e g) (h2 : AGs X E es gr) (hs : (assignEach (e :: es) X.env).map (·.2) = assign e X.env :: (assignEach es X.env).map (·.2) := by rfl) : AGs X E (e :: es) (gsCons g gr) := by
  refine ⟨PGs.imp (pgs_cons h1.run h2.run hs) fun v σ H Q ⟨F, ρ, h, d, S, R, r, q⟩ => ?_, fun d ρ h Q Q' X X' hq hx q => ?_⟩
  · obtain ⟨x, xs, rfl, q⟩ := q
    cases r with
    | cons r rr =>
      refine ⟨_, _, rfl, F, ρ, h, x, S, R, r, h1.mo _ _ _ _ _ _ _ (fun ρ1 g1 z => ?_) (fun _ _ z => z) q⟩
      intro F1 H1 σ1 e1 S1 R1
      exact ⟨F1, ρ1, g1, xs, S1, R1, rr.ext e1, h2.mo _ _ _ _ _ _ _ (fun _ _ z => LS.ext e1 z) (fun _ _ z => LX.ext e1 z) z⟩
  · obtain ⟨x, xs, e, q⟩ := q
    exact ⟨x, xs, e, h1.mo _ _ _ _ _ _ _ (fun ρ1 g1 z => h2.mo _ _ _ _ _ _ _ hq hx z) hx q⟩
theorem ag_tup {k2 n : Nat} {gr : WGs} (hc : X.calm = true) (h : AGs X E es gr) (hn : (assignEach es X.env).length = n := by rfl) (hst : (assignEach es X.env).findIdx? (·.1) = none := by rfl) : AG X E (.Tuple es k2 pos) (gT n gr) := by
  refine ⟨PG.imp (pg_tup hc h.run hn hst) fun v σ H Q ⟨F, ρ, g, d, S, R, r, q⟩ => ?_, fun d ρ g Q Q' X X' hq hx q => ?_⟩
  · obtain ⟨xs, rfl, l, q⟩ := q
    cases r with
    | @tup a _ vs hs rs => exact ⟨a, vs, rfl, sqt_of S.fz hs, by rw [← rs.length]; exact l, F, ρ, g, xs, S, R, rs, q⟩
  · obtain ⟨xs, e, l, q⟩ := q
    exact ⟨xs, e, l, h.mo _ _ _ _ _ _ _ hq hx q⟩
theorem mo_asg {g : WG} (h1 : MoE wa) (h2 : MoG g) : MoS (wAsg wa g) := fun D D' ρ h l q => h1 _ _ _ _ _ _ (fun x h1 z => h2 _ _ _ _ _ _ _ l.nx l.ex z) l.ex q
theorem to_asg {g : WG} (he : AE X E e wa) (hg : AG X E a g) {D : Ends} {σ : L2.St} {H : Hp} (q : tS X.K E (wAsg wa g) D σ H) : tAsg (tE X.K E wa) (tG X.K E g) D σ H := by
  obtain ⟨F, ρ, h, S, R, q⟩ := q
  refine ⟨F, ρ, h, S, R, he.mo _ _ _ _ _ _ (fun x h1 z => ?_) (fun _ _ z => z) q⟩
  intro F1 H1 v e1 S1 r
  exact ⟨F1, ρ, h1, x, S1, R.ext e1, r, hg.mo _ _ _ _ _ _ _ (fun _ _ z => LS.ext e1 z) (fun _ _ z => LX.ext e1 z) z⟩
theorem as_asg {tg : Expr} {g : WG} (he : AE X E e wa) (hg : AG X E tg g) (hs : swapsWithSole [tg] e pos.line X.env = pure false := by rfl) (hw : swappedStores [tg] e X.env = pure none := by rfl)
    (h1 : (assignEach [tg] X.env).map (·.2) = [assign tg X.env] := by rfl) : AS X E (.Assign [tg] e pos) (wAsg wa g) :=
  ⟨PS.imp (ps_asg he.run hg.run hs hw h1) fun D σ H q => to_asg he hg q, mo_asg he.mo hg.mo⟩
/-- name = value -/
theorem as_set (i : Nat) {x : Str} {pos' : Pos} (hN : X.N.Nodup) (he : AE X E e wa) (hi : X.N[i]? = some x := by rfl) (hx : Loc X.env.scope x := by first | exact Or.inl rfl | exact Or.inr rfl) (hs : swapsWith e (some (.Name x pos')) pos.line X.env = pure false := by rfl)
    (hf : X.fn x = true ∨ X.env.scope.names.lookup x = some .local := by first | exact .inl rfl | exact .inr rfl) : AS X E (.Assign [.Name x pos'] e pos) (wAsg wa (gN i)) := by
  have ag : AG X E (.Name x pos') (gN i) := ag_name i hN hi hx hf
  refine ⟨PS.imp (ps_set hN hi hx he.run hs hf) fun D σ H q => ?_, mo_asg he.mo ag.mo⟩
  obtain ⟨F, ρ, h, S, R, q⟩ := q
  refine ⟨F, ρ, h, S, R, he.mo _ _ _ _ _ _ (fun x h1 z => ?_) (fun _ _ z => z) q⟩
  intro F1 H1 v e1 S1 r
  exact z F1 H1 _ e1 S1 ((R.ext e1).set r i)
end
/-! ### while -/
/-! ### what is walked -/
structure ItD (K : PySem.W.Frag) (F : Hp) (J : It) (xs : List D) (st : AH → Prop) : Prop where
  go : ∀ {i F' h H}, Ext F F' → Sim K F' h H → st h → i < xs.length → J.go i H
  stop : ∀ {i F' h H}, Ext F F' → Sim K F' h H → st h → xs.length = i → J.stop i H
  yld : ∀ {i F' h H x H' d}, Ext F F' → Sim K F' h H → st h → J.yld i H x H' → xs[i]? = some d → ∃ F'', Ext F' F'' ∧ Sim K F'' h H' ∧ Rep K F'' d x
abbrev WI := EnvD → AH → (List D → (AH → Prop) → AH → Prop) → KX → Prop
def MoI (w : WI) : Prop := ∀ ρ h Q Q' X X', (∀ xs st h, Q xs st h → Q' xs st h) → (∀ x h, X x h → X' x h) → w ρ h Q X → w ρ h Q' X'
def LI (K : PySem.W.Frag) (F : Hp) (R : It → Hp → Prop) : List D → (AH → Prop) → AH → Prop := fun xs st h => ∀ F' H' J, Ext F F' → Sim K F' h H' → ItD K F' J xs st → R J H'
def tI (K : PySem.W.Frag) (E : XK) (w : WI) : TI := fun σ H R => ∃ F ρ h, Sim K F h H ∧ EnvR K F ρ σ ∧ w ρ h (LI K F R) (LX K F E)
structure AI (X : Cx) (E : XK) (tg iter : Expr) (w : WI) : Prop where
  run : PI X tg iter (tI X.K E w)
  mo : MoI w
theorem PI.imp {X : Cx} {tg e : Expr} {t t' : TI} (p : PI X tg e t) (h : ∀ σ H Q, t' σ H Q → t σ H Q) : PI X tg e t' := ⟨fun pins s σ H Q I q => p.run pins s σ H Q I (h _ _ _ q)⟩
def loopD (st : AH → Prop) (g : WG) (tb : WS) (Z : EndsD) : List D → EnvD → AH → Prop
  | [], ρ, h => st h ∧ Z.nx ρ h
  | x :: r, ρ, h => st h ∧ g x ρ h (fun ρ2 h2 => tb { Z with nx := loopD st g tb Z r, ct := loopD st g tb Z r, bk := Z.nx } ρ2 h2) Z.ex
def wFor (wi : WI) (g : WG) (tb : WS) : WS := fun D ρ h => wi ρ h (fun xs st h1 => loopD st g tb D xs ρ h1) D.ex
theorem loopD_mo {st : AH → Prop} {g : WG} {tb : WS} (mg : MoG g) (mb : MoS tb) {Z Z' : EndsD} (l : Z.Le Z') : ∀ (xs : List D) (ρ : EnvD) (h : AH), loopD st g tb Z xs ρ h → loopD st g tb Z' xs ρ h
  | [], ρ, h, q => ⟨q.1, l.nx _ _ q.2⟩
  | x :: r, ρ, h, q => ⟨q.1, mg _ _ _ _ _ _ _ (fun ρ2 h2 z => mb { Z with nx := loopD st g tb Z r, ct := loopD st g tb Z r, bk := Z.nx } _ _ _ ⟨fun _ _ z => loopD_mo mg mb l r _ _ z, l.rt, fun _ _ z => l.nx _ _ z, fun _ _ z => loopD_mo mg mb l r _ _ z, l.ex⟩ z) l.ex q.2⟩
section
variable {X : Cx} {E : XK} {k : Nat} {e tg iter : Expr} {pos : Pos} {body : List Stmt} {tb : WS} {wi : WI} {g : WG}
theorem as_for (c : Cg gz X E k) (hi : AI X E tg iter wi) (hg : AG X E tg g) (hb : ASs X E body tb) (hs : ∀ x, foldedSetIterable iter X.env x = pure x := by intro _; rfl) : AS X E (.For tg iter body [] pos) (wFor wi g tb) := by
  refine ⟨PS.imp (ps_for c.po c.calm hi.run hg.run hb.run hs) fun D σ H ⟨F, ρ, h, S, R, q⟩ => ?_, fun D D' ρ h l q => hi.mo _ _ _ _ _ _ (fun xs st h z => loopD_mo hg.mo hb.mo l _ _ _ z) l.ex q⟩
  refine ⟨F, ρ, h, S, R, hi.mo _ _ _ _ _ _ (fun xs st h1 z => ?_) (fun _ _ z => z) q⟩
  intro F1 H1 J e1 S1 it
  refine ⟨fun i m σ H => m = xs.length - i ∧ i ≤ xs.length ∧ ∃ F2 ρ2 h2, Ext F1 F2 ∧ Sim X.K F2 h2 H ∧ EnvR X.K F2 ρ2 σ ∧ loopD st g tb (LD X.K F D E) (xs.drop i) ρ2 h2, ⟨xs.length, by simp, Nat.zero_le _, F1, ρ, h1, .refl _, S1, R.ext e1, by simpa using z⟩, ?_⟩
  rintro i m σ2 H2 ⟨rfl, hi2, F2, ρ2, h2, e2, S2, R2, z2⟩
  by_cases lt : i < xs.length
  · rw [List.drop_eq_getElem_cons lt] at z2
    obtain ⟨hst, z2⟩ := z2
    refine .inr ⟨it.go e2 S2 hst lt, fun σ' H' => ∃ F3 ρ3 h3, Ext F1 F3 ∧ Sim X.K F3 h3 H' ∧ EnvR X.K F3 ρ3 σ' ∧ loopD st g tb (LD X.K F D E) (xs.drop (i + 1)) ρ3 h3, fun σ' H' p => ⟨xs.length - (i + 1), by omega, rfl, lt, p⟩, fun x H' y => ?_⟩
    obtain ⟨F3, e3, S3, r3⟩ := it.yld e2 S2 hst y (List.getElem?_eq_getElem lt)
    have e13 := e1.trans (e2.trans e3)
    refine ⟨F3, ρ2, h2, _, S3, R2.ext e3, r3, hg.mo _ _ _ _ _ _ _ (fun ρ4 h4 z4 => ?_) (fun _ _ z => LX.ext e13 z) z2⟩
    intro F4 H4 σ4 e4 S4 R4
    have e14 := e13.trans e4
    refine ⟨F4, ρ4, h4, S4, R4, hb.mo _ _ _ _ ⟨fun ρ5 h5 z5 F5 H5 σ5 e5 S5 R5 => ⟨F5, ρ5, h5, (e2.trans e3).trans (e4.trans e5), S5, R5, z5⟩, fun _ _ z => LQ.ext e14 z, fun _ _ z => LS.ext e14 z, fun ρ5 h5 z5 F5 H5 σ5 e5 S5 R5 => ⟨F5, ρ5, h5, (e2.trans e3).trans (e4.trans e5), S5, R5, z5⟩, fun _ _ z => LX.ext e14 z⟩ z4⟩
  · have e : i = xs.length := by omega
    subst e
    rw [List.drop_length] at z2
    exact .inl ⟨it.stop e2 S2 z2.1 rfl, z2.2 F2 H2 σ2 (e1.trans e2) S2 R2⟩
/-! sources -/
def iSeq (wa : WE) : WI := fun ρ h R X => wa ρ h (fun x h1 => match x with
  | .lst xs => R xs (fun _ => True) h1
  | .ref a => ∃ xs, h1 a = some (.lst xs) ∧ R xs (fun h => h a = some (.lst xs)) h1
  | _ => False) X
def iTupD (wa : WE) : WI := fun ρ h R X => wa ρ h (fun x h1 => match x with
  | .tup xs => R xs (fun _ => True) h1
  | .tpl xs => R xs (fun _ => True) h1
  | _ => False) X
def intsD (lo : Int) (n : Nat) : List D := (List.range n).map fun i => D.int (lo + (i : Nat))
def iRng1 (wl : WA) : WI := fun ρ h R X => wl ρ h (fun ds h1 => match ds with
  | [.int j] => -(2 ^ 62) ≤ j ∧ j < 2 ^ 62 ∧ R (intsD 0 j.toNat) (fun _ => True) h1
  | _ => False) X
def iRng2 (wl : WA) : WI := fun ρ h R X => wl ρ h (fun ds h1 => match ds with
  | [.int i, .int j] => (-(2 ^ 62) ≤ i ∧ i < 2 ^ 62 ∧ -(2 ^ 62) ≤ j ∧ j < 2 ^ 62) ∧ R (intsD i (j - i).toNat) (fun _ => True) h1
  | _ => False) X
theorem ItD.list {K : PySem.W.Frag} {F : Hp} {a : Addr} {xs : List D} {st : AH → Prop} (h : ∀ {F' h H}, Ext F F' → Sim K F' h H → st h → ∃ vs, SqL K H a vs ∧ Reps K F' xs vs) : ItD K F (Itl K a) xs st where
  go := fun {i F' h0 H} e S s l => by
    obtain ⟨vs, q, r⟩ := h e S s
    obtain ⟨v, hv, _⟩ := r.get (List.getElem?_eq_getElem l)
    exact ⟨vs, v, q, hv⟩
  stop := fun {i F' h0 H} e S s l => by
    obtain ⟨vs, q, r⟩ := h e S s
    exact ⟨vs, q, by rw [← r.length]; exact Nat.le_of_eq l⟩
  yld := fun {i F' h0 H x H' d} e S s y hd => by
    obtain ⟨rfl, y⟩ := y
    obtain ⟨vs, q, r⟩ := h e S s
    obtain ⟨v, hv, rv⟩ := r.get hd
    have := y vs q
    rw [hv] at this; cases this
    exact ⟨F', .refl _, S, rv⟩
theorem ItD.tup {K : PySem.W.Frag} {F : Hp} {a : Addr} {xs : List D} {vs : List V} (q : SqT K F a vs) (r : Reps K F xs vs) : ItD K F (Itt K a) xs (fun _ => True) where
  go := fun {i F' h0 H} e S s l => by
    obtain ⟨v, hv, _⟩ := r.get (List.getElem?_eq_getElem l)
    exact ⟨vs, v, sqt_of S.fz (e.sqt q), hv⟩
  stop := fun {i F' h0 H} e S s l => ⟨vs, sqt_of S.fz (e.sqt q), by rw [← r.length]; exact Nat.le_of_eq l⟩
  yld := fun {i F' h0 H x H' d} e S s y hd => by
    obtain ⟨rfl, y⟩ := y
    obtain ⟨v, hv, rv⟩ := r.get hd
    have := y vs (sqt_of S.fz (e.sqt q))
    rw [hv] at this; cases this
    exact ⟨F', .refl _, S, rv.ext e⟩
theorem intsD_len {lo : Int} {n : Nat} : (intsD lo n).length = n := by simp [intsD]
theorem intsD_get {lo : Int} {n i : Nat} {d : D} (h : (intsD lo n)[i]? = some d) : d = .int (lo + (i : Nat)) ∧ i < n := by
  unfold intsD at h
  rw [List.getElem?_map] at h
  by_cases c : i < n
  · rw [List.getElem?_range c] at h
    cases h; exact ⟨rfl, c⟩
  · rw [List.getElem?_eq_none (by simpa using c)] at h; cases h
theorem ItD.rng {K : PySem.W.Frag} {F : Hp} {lo : Int} {n : Nat} : ItD K F (Itr lo n) (intsD lo n) (fun _ => True) where
  go := fun {i F' h0 H} e S s l => by rw [intsD_len] at l; exact l
  stop := fun {i F' h0 H} e S s l => by rw [intsD_len] at l; exact Nat.le_of_eq l
  yld := fun {i F' h0 H x H' d} e S s y hd => by
    obtain ⟨rfl, rfl⟩ := y
    obtain ⟨rfl, _⟩ := intsD_get hd
    exact ⟨F', .refl _, S, .int _⟩
variable {wa : WE} {wl : WA} {es : List Expr} {p : Pos}
theorem ai_list {l : Expr} (hl : AE X E l wa) : AI X E tg l (iSeq wa) := by
  refine ⟨PI.imp (pi_list hl.run) fun σ H R ⟨F, ρ, g, S, Rr, q⟩ => ?_, fun ρ h Q Q' X X' hq hx q => hl.mo _ _ _ _ _ _ (fun x h1 z => ?_) hx q⟩
  · refine ⟨F, ρ, g, S, Rr, hl.mo _ _ _ _ _ _ (fun x h1 z => ?_) (fun _ _ z => z) q⟩
    intro F1 H1 v e1 S1 r
    split at z
    · cases r with
      | @lst a xs vs hf rs =>
        exact ⟨a, rfl, ⟨vs, .of (S1.fz _ _ hf)⟩, z F1 H1 _ e1 S1 (ItD.list fun {F' h0 H0} e S _ => ⟨vs, .of (S.fz _ _ (e _ _ hf)), rs.ext e⟩)⟩
    · rename_i a
      obtain ⟨xs, hx, z⟩ := z
      cases r
      obtain ⟨_, u, hu, vs, rfl, rs⟩ := S1.ob _ _ hx
      refine ⟨a, rfl, ⟨vs, .of hu⟩, z F1 H1 _ e1 S1 (ItD.list fun {F' h0 H0} e S st => ?_)⟩
      obtain ⟨_, u', hu', vs', rfl, rs'⟩ := S.ob _ _ st
      exact ⟨vs', .of hu', rs'⟩
    · exact z.elim
  · split at z
    · exact hq _ _ _ z
    · obtain ⟨xs, hx, z⟩ := z
      exact ⟨xs, hx, hq _ _ _ z⟩
    · exact z.elim
theorem ai_rng1 {a : Expr} (hm : X.mg "range" = none) (ha : AA X E [a] wl) (hg : Gl X "range" := by rfl) (hs : starEach [a] X.env = [(false, eval a X.env)] := by rfl) : AI X E tg (.Call (.Name "range" p) [a] [] pos) (iRng1 wl) := by
  refine ⟨PI.imp (pi_range1 hg hm ha.run hs) fun σ H R ⟨F, ρ, g, S, Rr, q⟩ => ?_, fun ρ h Q Q' X X' hq hx q => ha.mo _ _ _ _ _ _ (fun ds h1 z => ?_) hx q⟩
  · refine ⟨F, ρ, g, S, Rr, ha.mo _ _ _ _ _ _ (fun ds h1 z => ?_) (fun _ _ z => z) q⟩
    intro F1 H1 vs e1 S1 rs
    split at z
    · cases rs with
      | cons r rs => cases rs; cases r; exact ⟨_, rfl, z.1, z.2.1, z.2.2 F1 H1 _ e1 S1 ItD.rng⟩
    · exact z.elim
  · split at z
    · exact ⟨z.1, z.2.1, hq _ _ _ z.2.2⟩
    · exact z.elim
end
end DL
namespace DL
open PySem PySem.Spec L2
def wipeD (ρ : EnvD) : List Nat → EnvD
  | [] => ρ
  | v :: vs => (wipeD ρ vs).set v none
theorem EnvR.wipe {K : PySem.W.Frag} {F : Hp} {ρ : EnvD} {σ : L2.St} (r : EnvR K F ρ σ) : ∀ vs : List Nat, EnvR K F (wipeD ρ vs) (L2.wipe σ vs)
  | [] => r
  | v :: vs => by
    have ih := EnvR.wipe r vs
    refine ⟨by simp [wipeD, L2.wipe, ih.1], fun i d e => ?_⟩
    show ∃ x, ((L2.wipe σ vs).set v none)[i]? = some (some x) ∧ _
    have e : ((wipeD ρ vs).set v none)[i]? = some (some d) := e
    by_cases c : v = i
    · subst c
      by_cases l : v < (wipeD ρ vs).length
      · rw [List.getElem?_set_self l] at e; cases e
      · rw [List.getElem?_eq_none (by simpa using l)] at e; cases e
    · rw [List.getElem?_set_ne c] at e ⊢
      exact ih.2 i d e
def rm (h : AH) (p : Addr) : AH := fun b => if b = p then none else h b
@[simp] theorem rm_up {h : AH} {p : Addr} {o : AO} : rm (up h p o) p = rm h p := by funext b; unfold rm up; split <;> rfl
theorem rm_none {h : AH} {p : Addr} (e : h p = none) : rm h p = h := by
  funext b; unfold rm; split
  · rename_i c; rw [c, e]
  · rfl
theorem rm_sub {h : AH} {p : Addr} : Sub (rm h p) h := fun a o e => by
  unfold rm at e; split at e
  · cases e
  · exact e
theorem rm_same {h : AH} {p : Addr} : rm h p p = none := by simp [rm]
/-- a target of a comprehension: names alone -/
structure GW (K : PySem.W.Frag) (vs : List Nat) (g : WG) (gv : TG) : Prop where
  to : ∀ {F h H d v ρ σ} {QD : EnvD → AH → Prop} {Q : L2.St → Hp → Prop}, Sim K F h H → Rep K F d v → EnvR K F ρ σ → g d ρ h QD (fun _ _ => False) →
    (∀ ρ2 σ2, EnvR K F ρ2 σ2 → QD ρ2 h → L2.wipe σ2 vs = L2.wipe σ vs → Q σ2 H) → gv v σ H Q
  mo : MoG g
theorem wipe_set {σ : L2.St} {i : Nat} {x : Option V} : ∀ {vs : List Nat}, i ∈ vs → L2.wipe (σ.set i x) vs = L2.wipe σ vs
  | v :: vs, h => by
    show (L2.wipe (σ.set i x) vs).set v none = (L2.wipe σ vs).set v none
    by_cases c : i ∈ vs
    · rw [wipe_set c]
    · have e : v = i := by rcases List.mem_cons.mp h with e | e; exact e.symm; exact absurd e c
      subst e
      have : ∀ {ws : List Nat}, L2.wipe (σ.set v x) ws = (L2.wipe σ ws).set v (if v ∈ ws then none else x) ∨ True := fun {ws} => .inr trivial
      apply List.ext_getElem?
      intro j
      by_cases ej : v = j
      · subst ej
        by_cases l : v < σ.length
        · rw [List.getElem?_set_self (by rw [L2.wipe_length, List.length_set]; exact l), List.getElem?_set_self (by rw [L2.wipe_length]; exact l)]
        · rw [List.getElem?_eq_none (by simp [L2.wipe_length]; omega), List.getElem?_eq_none (by simp [L2.wipe_length]; omega)]
      · rw [List.getElem?_set_ne ej, List.getElem?_set_ne ej]
        have q : ∀ (ws : List Nat) (a b : L2.St), (a.length = b.length) → (∀ j, v ≠ j → a[j]? = b[j]?) → ∀ j, v ≠ j → (L2.wipe a ws)[j]? = (L2.wipe b ws)[j]? := by
          intro ws
          induction ws with
          | nil => intro a b _ h j hj; exact h j hj
          | cons w ws ih =>
            intro a b hl h j hj
            show ((L2.wipe a ws).set w none)[j]? = ((L2.wipe b ws).set w none)[j]?
            by_cases c : w = j
            · subst c
              by_cases l : w < a.length
              · rw [List.getElem?_set_self (by rw [L2.wipe_length]; exact l), List.getElem?_set_self (by rw [L2.wipe_length, ← hl]; exact l)]
              · rw [List.getElem?_eq_none (by simp [L2.wipe_length]; omega), List.getElem?_eq_none (by simp [L2.wipe_length]; omega)]
            · rw [List.getElem?_set_ne c, List.getElem?_set_ne c]
              exact ih a b hl h j hj
        exact q vs _ _ (by simp) (fun j hj => by rw [List.getElem?_set_ne hj]) j ej
theorem gw_name {K : PySem.W.Frag} {vs : List Nat} {i : Nat} (hi : i ∈ vs) : GW K vs (gN i) (gName i) :=
  ⟨fun {F h H d v ρ σ QD Q} S r R q k => k _ _ (R.set r i) q (wipe_set hi), fun d ρ h Q Q' X X' hq _ q => hq _ _ q⟩
/-- i, j, .. : the names of a tuple target -/
def gsN : List Nat → WGs
  | [] => gsNil
  | i :: is => gsCons (gN i) (gsN is)
def compD (st : AH → Prop) (g : WG) (tt : WT) (te : WE) (vs : List Nat) (ρ : EnvD) (p : Addr) : List D → AH → (AH → Prop) → Prop
  | [], h, Q => st h ∧ Q h
  | x :: r, h, Q => st h ∧ g x (wipeD ρ vs) h (fun ρ2 h2 => tt ρ2 h2 (fun b h3 => if b = true then te ρ2 h3 (fun y h4 => ∃ acc, h4 p = some (.lst acc) ∧ acc.length < sizeLine ∧ compD st g tt te vs ρ p r (up h4 p (.lst (acc ++ [y]))) Q) (fun _ _ => False) else compD st g tt te vs ρ p r h3 Q) (fun _ _ => False)) (fun _ _ => False)
/-- what becomes of the list that a comprehension made -/
def endL (m : Bool) (p : Addr) (Q : KD) : AH → Prop := fun h => ∃ acc, h p = some (.lst acc) ∧ if m = true then Q (.ref p) h else Q (.lst acc) (rm h p)
def wLc (m : Bool) (wi : WI) (g : WG) (tt : WT) (te : WE) (vs : List Nat) : WE := fun ρ h Q X => wi ρ h (fun xs st h1 => ∀ p, h1 p = none → compD st g tt te vs ρ p xs (up h1 p (.lst [])) (endL m p Q)) X
def wYes : WT := fun _ h Q _ => Q true h
theorem mo_yes : MoT wYes := fun ρ h Q Q' X X' hq _ q => hq _ _ q
theorem compD_mo {st : AH → Prop} {g : WG} {tt : WT} {te : WE} {vs : List Nat} {ρ : EnvD} {p : Addr} (mg : MoG g) (mt : MoT tt) (me : MoE te) {Q Q' : AH → Prop} (hq : ∀ h, Q h → Q' h) : ∀ (xs : List D) (h : AH), compD st g tt te vs ρ p xs h Q → compD st g tt te vs ρ p xs h Q'
  | [], h, q => ⟨q.1, hq _ q.2⟩
  | x :: r, h, q => ⟨q.1, mg _ _ _ _ _ _ _ (fun ρ2 h2 z => mt _ _ _ _ _ _ (fun b h3 z => by
      split at z
      · rename_i c; rw [if_pos c]; exact me _ _ _ _ _ _ (fun y h4 ⟨acc, e, l, z⟩ => ⟨acc, e, l, compD_mo mg mt me hq r _ z⟩) (fun _ _ z => z) z
      · rename_i c; rw [if_neg c]; exact compD_mo mg mt me hq r _ z) (fun _ _ z => z) z) (fun _ _ z => z) q.2⟩
theorem endL_mo {m : Bool} {p : Addr} {Q Q' : KD} (hq : ∀ d h, Q d h → Q' d h) : ∀ h, endL m p Q h → endL m p Q' h := fun h ⟨acc, e, z⟩ => ⟨acc, e, by
  split at z
  · rename_i c; rw [if_pos c]; exact hq _ _ z
  · rename_i c; rw [if_neg c]; exact hq _ _ z⟩
theorem endL_to {K : PySem.W.Frag} {F : Hp} {h : AH} {H : Hp} {m : Bool} {p : Addr} {Q : VK} (S : Sim K F h H) (q : endL m p (LQ K F Q) h) : Q (.ref p) H := by
  obtain ⟨acc, e, q⟩ := q
  split at q
  · exact q.at S (.ref p)
  · obtain ⟨f, u, hu, us, rfl, rs⟩ := S.ob _ _ e
    obtain ⟨e2, S2⟩ := S.frz e hu rm_same rm_sub
    exact q _ _ _ e2 S2 (.lst upd_same (rs.ext e2))
theorem mo_lc {m : Bool} {wi : WI} {g : WG} {tt : WT} {te : WE} {vs : List Nat} (mi : MoI wi) (mg : MoG g) (mt : MoT tt) (me : MoE te) : MoE (wLc m wi g tt te vs) := fun ρ h Q Q' X X' hq hx q =>
  mi _ _ _ _ _ _ (fun xs st h1 z p hp => compD_mo mg mt me (endL_mo hq) _ _ (z p hp)) hx q
/-- the tests of a clause -/
structure ATs (X : Cx) (E : XK) (ifs : List Expr) (w : WT) : Prop where
  run : PTs X ifs (tT X.K E w)
  mo : MoT w
theorem ats_nil {X : Cx} {E : XK} : ATs X E [] wYes := ⟨⟨fun pins s σ H Q I ⟨F, ρ, h, S, R, q⟩ => pts_nil.run pins s σ H Q I (q F H (.refl F) S)⟩, mo_yes⟩
theorem ats_one {X : Cx} {E : XK} {c : Expr} {w : WT} (h : AT X E c w) : ATs X E [c] w := ⟨pts_one h.run, h.mo⟩
section
variable {X : Cx} {E : XK} {k : Nat} {elt tg iter : Expr} {ifs : List Expr} {scope : Scope} {own : List (Str × Nat)} {pos : Pos} {wi : WI} {g : WG} {gv : TG} {tt : WT} {te : WE}
/-- the block of a comprehension: nothing is let out of it -/
abbrev Blk (X : Cx) (scope : Scope) (s : Shared) (H : Hp) (C : Addr) (cl : List (Str × Addr)) (fp : List Addr) : Cx := X.blk s H scope (compEnvC scope cl C X.env) fp
theorem cg_blk (c : Cg gz X E k) (s : Shared) (H : Hp) (C : Addr) (cl : List (Str × Addr)) (fp : List Addr) (po : PassesOwn (model X.prog X.w) X.A (compEnvC scope cl C X.env) (fun _ _ => False) := PassesOwn.never) : Cg gz (Blk X scope s H C cl fp) E0 k :=
  ⟨c.room, c.gd, c.calm, c.nd, passL, po⟩
theorem to_lc {m : Bool} (mi : MoI wi) (mg : MoG g) (mt : MoT tt) (me : MoE te) (gw : GW X.K (own.map (·.2)) g gv) {σ : L2.St} {H : Hp} {Q : VK} (h : tE X.K E (wLc m wi g tt te (own.map (·.2))) σ H Q) :
    tLc (tI X.K E wi) gv (tT X.K E0 tt) (tE X.K E0 te) (own.map (·.2)) σ H Q := by
  obtain ⟨F, ρ, h0, S, R, q⟩ := h
  refine ⟨F, ρ, h0, S, R, mi _ _ _ _ _ _ (fun xs st h1 z => ?_) (fun _ _ z => z) q⟩
  intro F1 H1 J e1 S1 it D hD
  obtain ⟨f1, g1⟩ := S1.free hD
  have z := z D g1
  refine ⟨fun i n H => n = xs.length - i ∧ i ≤ xs.length ∧ ∃ F2 h2, Ext F1 F2 ∧ Sim X.K F2 h2 H ∧ compD st g tt te (own.map (·.2)) ρ D (xs.drop i) h2 (endL m D (LQ X.K F2 Q)),
    ⟨xs.length, by simp, Nat.zero_le _, F1, _, .refl _, S1.newM hD (o := .lst []) ⟨[], rfl, .nil⟩, compD_mo mg mt me (endL_mo fun _ _ z => LQ.ext e1 z) _ _ (by simpa using z)⟩, ?_⟩
  rintro i n H2 ⟨rfl, hi, F2, h2, e2, S2, z2⟩
  by_cases lt : i < xs.length
  · rw [List.drop_eq_getElem_cons lt] at z2
    obtain ⟨hst, z2⟩ := z2
    refine .inr ⟨it.go e2 S2 hst lt, fun H' => ∃ F3 h3, Ext F1 F3 ∧ Sim X.K F3 h3 H' ∧ compD st g tt te (own.map (·.2)) ρ D (xs.drop (i + 1)) h3 (endL m D (LQ X.K F3 Q)), fun H' p => ⟨xs.length - (i + 1), by omega, rfl, lt, p⟩, fun x H' y => ?_⟩
    obtain ⟨F3, e3, S3, r3⟩ := it.yld e2 S2 hst y (List.getElem?_eq_getElem lt)
    have R3 := (R.ext (e1.trans (e2.trans e3))).wipe (own.map (·.2))
    refine gw.to S3 r3 R3 z2 fun ρ4 σ4 R4 z4 ew => ⟨?_, ?_⟩
    · rw [ew]
      have : ∀ vs : List Nat, L2.wipe (L2.wipe σ vs) vs = L2.wipe σ vs := by
        intro vs
        have key : ∀ (us vs : List Nat), (∀ u ∈ us, u ∈ vs) → L2.wipe (L2.wipe σ us) vs = L2.wipe σ vs := by
          intro us
          induction us with
          | nil => intro vs _; rfl
          | cons u us ih =>
            intro vs hu
            show L2.wipe ((L2.wipe σ us).set u none) vs = _
            rw [wipe_set (hu u (List.mem_cons_self ..)), ih vs fun w hw => hu w (List.mem_cons_of_mem _ hw)]
        exact key vs vs fun _ h => h
      rw [this]
    · refine ⟨F3, ρ4, h2, S3, R4, mt _ _ _ _ _ _ (fun b h5 z5 => ?_) (fun _ _ z => z.elim) z4⟩
      intro F5 H5 e5 S5
      split at z5
      · rename_i cb
        rw [if_pos cb]
        refine ⟨F5, ρ4, h5, S5, R4.ext e5, me _ _ _ _ _ _ (fun y h6 z6 => ?_) (fun _ _ z => z.elim) z5⟩
        intro F6 H6 v6 e6 S6 r6
        obtain ⟨acc, ea, la, z6⟩ := z6
        obtain ⟨fa, u, hu, us, rfl, rs⟩ := S6.ob _ _ ea
        exact ⟨us, hu, by rw [← rs.length]; exact la, F6, _, e2.trans (e3.trans (e5.trans e6)), S6.put ea (o := .lst (acc ++ [y])) ⟨_, rfl, rs.append (.cons r6 .nil)⟩, compD_mo mg mt me (endL_mo fun _ _ z => LQ.ext (e3.trans (e5.trans e6)) z) _ _ z6⟩
      · rename_i cb
        rw [if_neg cb]
        exact ⟨F5, _, e2.trans (e3.trans e5), S5, compD_mo mg mt me (endL_mo fun _ _ z => LQ.ext (e3.trans e5) z) _ _ z5⟩
  · have e : i = xs.length := by omega
    subst e
    rw [List.drop_length] at z2
    exact .inl ⟨it.stop e2 S2 z2.1 rfl, endL_to S2 z2.2⟩
theorem ae_lc (m : Bool) (c : Cg gz X E k) (hi : AI X E tg iter wi) (ok : BlkOk X.N X.env.scope scope own) (gw : GW X.K (own.map (·.2)) g gv)
    (hg : ∀ (s : Shared) (H : Hp) (C : Addr) (cl : List (Str × Addr)) (fp : List Addr), PG (Blk X scope s H C cl fp) tg gv)
    (ht : ∀ (s : Shared) (H : Hp) (C : Addr) (cl : List (Str × Addr)) (fp : List Addr), Cg gz (Blk X scope s H C cl fp) E0 k → ATs (Blk X scope s H C cl fp) E0 ifs tt)
    (he : ∀ (s : Shared) (H : Hp) (C : Addr) (cl : List (Str × Addr)) (fp : List Addr), Cg gz (Blk X scope s H C cl fp) E0 k → AE (Blk X scope s H C cl fp) E0 elt te)
    (hs : ∀ x, foldedSetIterable iter X.env x = pure x := by intro _; rfl) :
    AE X E (.ListComp elt [⟨tg, iter, ifs, 0⟩] scope pos) (wLc m wi g tt te (own.map (·.2))) :=
  have mg := gw.mo
  have mt := (ht X.s_0 X.H_0 0 [] [] (cg_blk c _ _ _ _ _)).mo
  have me := (he X.s_0 X.H_0 0 [] [] (cg_blk c _ _ _ _ _)).mo
  ⟨PE.imp (pe_lc (tt := tT X.K E0 tt) (te := tE X.K E0 te) c.calm c.nd hi.run ok hg (fun s H C cl fp => (ht s H C cl fp (cg_blk c s H C cl fp)).run) (fun s H C cl fp => (he s H C cl fp (cg_blk c s H C cl fp)).run) hs) fun σ H Q h => to_lc hi.mo mg mt me gw h, mo_lc hi.mo mg mt me⟩
end
end DL
namespace DL
open PySem PySem.Spec L2 C8
/-! ### subscripts -/
def dIx (x y : D) (h : AH) (Q : KD) : Prop := match y with
  | .int i => ∃ xs d, seqOf h x = some xs ∧ atI xs i = some d ∧ Q d h
  | _ => False
theorem Reps.atI {K : PySem.W.Frag} {F : Hp} {xs : List D} {vs : List V} {i : Int} {d : D} (r : Reps K F xs vs) (e : L2.atI xs i = some d) : ∃ v, L2.atI vs i = some v ∧ Rep K F d v := by
  unfold L2.atI at *
  rw [← r.length]
  cases q : ixN xs.length i with
  | none => rw [q] at e; cases e
  | some j =>
    rw [q] at e
    exact r.get (i := j) e
def rIxD2 (K : PySem.W.Frag) : R2 := fun x y H Q => rIxL K x y H Q ∨ rIxT K x y H Q
theorem ix_two {X : Cx} : IxR X (rIxD2 X.K) := IxR.or ix_list ix_tup
theorem dIx_ok {K : PySem.W.Frag} : OpD K (rIxD2 K) dIx where
  to := by
    intro F h H x y vx vy Q S rx ry q
    unfold dIx at q
    split at q
    · obtain ⟨xs, d, e1, e2, q⟩ := q
      cases ry
      obtain ⟨a, vs, rfl, hs, rs⟩ := S.seqOf rx e1
      obtain ⟨v, hv, rv⟩ := rs.atI e2
      rcases hs with hs | hs
      · exact .inl ⟨a, vs, _, v, rfl, rfl, hs, hv, q.at S rv⟩
      · exact .inr ⟨a, vs, _, v, rfl, rfl, hs, hv, q.at S rv⟩
    · exact q.elim
  mo := by
    intro x y h Q Q' hq q
    unfold dIx at *
    split at q
    · obtain ⟨xs, d, e1, e2, q⟩ := q
      exact ⟨xs, d, e1, e2, hq _ _ q⟩
    · exact q.elim
section
variable {X : Cx} {E : XK} {k : Nat} {a b e o i : Expr} {es : List Expr} {wa wb wo wi : WE} {wl : WA} {pos : Pos}
theorem ae_ix (ha : AE X E a wa) (hb : AE X E b wb) (hs : PlainIx b := by exact fun _ _ => rfl) : AE X E (.Subscript a b pos) (wOp dIx wa wb) :=
  ⟨PE.imp (pe_ix ix_two ha.run hb.run hs) fun σ H Q h => two dIx_ok ha hb h, mo_op (dIx_ok (K := X.K)).mo ha.mo hb.mo⟩
/-! ### slices -/
abbrev WO := EnvD → AH → (Option Int → AH → Prop) → KX → Prop
def woNone : WO := fun _ h Q _ => Q none h
def woSome (a : WE) : WO := fun ρ h Q X => a ρ h (fun x h1 => match x with
  | .int i => Q (some i) h1
  | _ => False) X
def MoO (w : WO) : Prop := ∀ ρ h Q Q' X X', (∀ d h, Q d h → Q' d h) → (∀ x h, X x h → X' x h) → w ρ h Q X → w ρ h Q' X'
def LO (K : PySem.W.Frag) (F : Hp) (Q : Option Int → Hp → Prop) : Option Int → AH → Prop := fun b h' => ∀ F' H', Ext F F' → Sim K F' h' H' → Q b H'
structure AO_ (X : Cx) (E : XK) (e : Option Expr) (w : WO) : Prop where
  run : PO X e (fun σ H Q => ∃ F ρ h, Sim X.K F h H ∧ EnvR X.K F ρ σ ∧ w ρ h (LO X.K F Q) (LX X.K F E))
  mo : MoO w
theorem ao_none : AO_ X E none woNone := by
  refine ⟨⟨fun pins s σ H Q I h => ?_⟩, fun ρ h Q Q' X X' hq _ q => hq _ _ q⟩
  obtain ⟨F, ρ, h, S, R, q⟩ := h
  exact po_none.run pins s σ H Q I (q F H (.refl F) S)
theorem ao_some (ha : AE X E a wa) : AO_ X E (some a) (woSome wa) := by
  refine ⟨⟨fun pins s σ H Q I h => ?_⟩, fun ρ h Q Q' X X' hq hx q => ha.mo _ _ _ _ _ _ (fun x h1 z => ?_) hx q⟩
  · obtain ⟨F, ρ, h, S, R, q⟩ := h
    refine (po_some ha.run).run pins s σ H Q I ⟨F, ρ, h, S, R, ha.mo _ _ _ _ _ _ (fun x h1 z => ?_) (fun _ _ z => z) q⟩
    intro F1 H1 v e1 S1 r
    split at z
    · cases r; exact ⟨_, rfl, z F1 H1 e1 S1⟩
    · exact z.elim
  · split at z
    · exact hq _ _ z
    · exact z.elim
def cutD {α : Type} (xs : List α) (lo hi : Option Int) : List α := (xs.drop (HT.sIx xs.length 0 lo)).take (HT.sIx xs.length xs.length hi - HT.sIx xs.length 0 lo)
theorem Reps.cut {K : PySem.W.Frag} {F : Hp} {xs : List D} {vs : List V} (r : Reps K F xs vs) (lo hi : Option Int) : Reps K F (cutD xs lo hi) (cutV vs lo hi) := by
  unfold cutD cutV
  rw [r.length]
  exact (r.drop _).take _
def dSl (m : Bool) (x : D) (lo hi : Option Int) (h : AH) (Q : KD) : Prop := match x with
  | .tup xs => Q (.tup (cutD xs lo hi)) h
  | .str s => s.length ≤ sizeLine ∧ Q (.str (Txt.slice s lo hi)) h
  | .ref a => match h a with
    | some (.lst xs) => newL m (cutD xs lo hi) h Q
    | some (.lck xs) => newL m (cutD xs lo hi) h Q
    | _ => False
  | .lst xs => newL m (cutD xs lo hi) h Q
  | .lk xs => newL m (cutD xs lo hi) h Q
  | _ => False
theorem dSl_mo {m : Bool} {x : D} {lo hi : Option Int} {h : AH} {Q Q' : KD} (hq : ∀ d h, Q d h → Q' d h) (q : dSl m x lo hi h Q) : dSl m x lo hi h Q' := by
  unfold dSl at *
  split at q
  · exact hq _ _ q
  · exact ⟨q.1, hq _ _ q.2⟩
  · split at q
    · exact newL_mo hq q
    · exact newL_mo hq q
    · exact q.elim
  · exact newL_mo hq q
  · exact newL_mo hq q
  · exact q.elim
def wSl (m : Bool) (a : WE) (lo hi : WO) : WE := fun ρ h Q X => a ρ h (fun x h1 => lo ρ h1 (fun l h2 => hi ρ h2 (fun u h3 => dSl m x l u h3 Q) X) X) X
def rSlD (K : PySem.W.Frag) : V → Option Int → Option Int → Hp → VK → Prop := fun x lo hi H Q => rSlA K x lo hi H Q ∨ (rSlX x lo hi H Q ∨ rSlL K x lo hi H Q)
theorem sl_all : SlR X (rSlD X.K) := SlR.or sl_tupA (SlR.or sl_txt sl_list)
theorem cut_whole {α : Type} {xs : List α} {lo hi : Option Int} (h : HT.sIx xs.length 0 lo = 0 ∧ HT.sIx xs.length xs.length hi = xs.length) : cutD xs lo hi = xs := by
  unfold cutD; rw [h.1, h.2]; simp
theorem dSl_to {K : PySem.W.Frag} {F : Hp} {h : AH} {H : Hp} {m : Bool} {x : D} {v : V} {lo hi : Option Int} {Q : VK} (S : Sim K F h H) (r : Rep K F x v) (q : dSl m x lo hi h (LQ K F Q)) : rSlD K v lo hi H Q := by
  unfold dSl at q
  split at q
  · cases r with
    | @tup a xs vs hs rs =>
      refine .inl ⟨a, vs, rfl, sqt_of S.fz hs, fun w => ?_, fun _ => S.newT (rs.cut lo hi) q⟩
      rw [cut_whole (by rw [rs.length]; exact w)] at q
      exact q.at S (.tup hs rs)
  · cases r; exact .inr (.inl ⟨_, rfl, q.1, q.2.at S (.str _)⟩)
  · rename_i a
    cases r
    split at q
    · rename_i xs e
      obtain ⟨_, u, hu, vs, rfl, rs⟩ := S.ob _ _ e
      exact .inr (.inr ⟨a, vs, rfl, .of hu, S.newL (rs.cut lo hi) q⟩)
    · rename_i xs e
      obtain ⟨_, u, hu, o, vs, rfl, rs⟩ := S.ob _ _ e
      exact .inr (.inr ⟨a, vs, rfl, .inl (.inr ⟨o, hu⟩), S.newL (rs.cut lo hi) q⟩)
    · exact q.elim
  · cases r with
    | @lst a xs vs hs rs => exact .inr (.inr ⟨a, vs, rfl, .of (S.fz _ _ hs), S.newL (rs.cut lo hi) q⟩)
  · cases r with
    | @lk a xs vs hs rs => exact .inr (.inr ⟨a, vs, rfl, Ext.sql S.fz hs, S.newL (rs.cut lo hi) q⟩)
  · exact q.elim
theorem ae_sl (m : Bool) {lo hi : Option Expr} {wlo whi : WO} {p2 : Pos} (ha : AE X E a wa) (hl : AO_ X E lo wlo) (hh : AO_ X E hi whi) : AE X E (.Subscript a (.Slice lo hi none p2) pos) (wSl m wa wlo whi) := by
  refine ⟨PE.imp (pe_slice sl_all ha.run hl.run hh.run) fun σ H Q ⟨F, ρ, g, S, R, q⟩ => ?_, fun ρ h Q Q' X X' hq hx q => ha.mo _ _ _ _ _ _ (fun x h1 z => hl.mo _ _ _ _ _ _ (fun l h2 z => hh.mo _ _ _ _ _ _ (fun u h3 z => dSl_mo hq z) hx z) hx z) hx q⟩
  refine ⟨F, ρ, g, S, R, ha.mo _ _ _ _ _ _ (fun x h1 z => ?_) (fun _ _ z => z) q⟩
  intro F1 H1 v e1 S1 r
  refine ⟨F1, ρ, h1, S1, R.ext e1, hl.mo _ _ _ _ _ _ (fun l h2 z => ?_) (fun _ _ z => LX.ext e1 z) z⟩
  intro F2 H2 e2 S2
  refine ⟨F2, ρ, h2, S2, R.ext (e1.trans e2), hh.mo _ _ _ _ _ _ (fun u h3 z => ?_) (fun _ _ z => LX.ext (e1.trans e2) z) z⟩
  intro F3 H3 e3 S3
  exact dSl_to S3 (r.ext (e2.trans e3)) (dSl_mo (fun _ _ z => LQ.ext (e1.trans (e2.trans e3)) z) z)
/-! ### x[i] = v, of a list -/
def gSubL (wo wi : WE) : WG := fun d ρ h Q X => wo ρ h (fun o h1 => wi ρ h1 (fun i h2 => ∃ a xs k j, o = .ref a ∧ i = .int k ∧ h2 a = some (.lst xs) ∧ ixN xs.length k = some j ∧ Q ρ (up h2 a (.lst (xs.set j d)))) X) X
theorem ag_subL (ho : AE X E o wo) (hi : AE X E i wi) (ha : ∀ v, assign (.Subscript o i pos) X.env v = (do
      let ov ← holding [v] (eval o X.env)
      let iv ← holding [v, ov] (eval i X.env)
      standAt pos
      holding [v, ov, iv] (setItem ov iv v)
      release [v, ov, iv] []) := by intro _; rfl) : AG X E (.Subscript o i pos) (gSubL wo wi) := by
  refine ⟨PG.imp (pg_sub ho.run hi.run set_list ha) fun v σ H Q ⟨F, ρ, g, d, S, R, r, q⟩ => ?_, fun d ρ h Q Q' X X' hq hx q => ho.mo _ _ _ _ _ _ (fun x h1 z => hi.mo _ _ _ _ _ _ (fun y h2 ⟨a, xs, k, j, e1, e2, e3, e4, z⟩ => ⟨a, xs, k, j, e1, e2, e3, e4, hq _ _ z⟩) hx z) hx q⟩
  refine ⟨F, ρ, g, S, R, ho.mo _ _ _ _ _ _ (fun x h1 z => ?_) (fun _ _ z => z) q⟩
  intro F1 H1 vo e1 S1 ro
  refine ⟨F1, ρ, h1, S1, R.ext e1, hi.mo _ _ _ _ _ _ (fun y h2 z => ?_) (fun _ _ z => LX.ext e1 z) z⟩
  intro F2 H2 vi e2 S2 ri
  obtain ⟨a, xs, k, j, rfl, rfl, ea, ej, z⟩ := z
  cases ri
  have ro2 := ro.ext e2
  cases ro2
  obtain ⟨_, u, hu, vs, rfl, rs⟩ := S2.ob _ _ ea
  exact ⟨a, vs, k, j, rfl, rfl, hu, by rw [← rs.length]; exact ej, z F2 _ σ (e1.trans e2) (S2.put ea (o := .lst (xs.set j d)) ⟨_, rfl, rs.set (r.ext (e1.trans e2)) j⟩) (R.ext (e1.trans e2))⟩
/-! ### methods of a list that changes it -/
structure MeD (K : PySem.W.Frag) (T : String) (rv : V → List V → Hp → VK → Prop) (f : D → List D → AH → KD → Prop) (ty : D → AH → Prop) : Prop where
  to : ∀ {F h H x xs vx vs} {Q : VK}, Sim K F h H → Rep K F x vx → Reps K F xs vs → f x xs h (LQ K F Q) → rv vx vs H Q
  ty : ∀ {F h H x vx}, Sim K F h H → Rep K F x vx → ty x h → tyV K T vx H
  mo : ∀ {x xs h} {Q Q' : KD}, (∀ d h, Q d h → Q' d h) → f x xs h Q → f x xs h Q'
def wMethT (ty : D → AH → Prop) (f : D → List D → AH → KD → Prop) (wo : WE) (wl : WA) : WE := fun ρ h Q X => wo ρ h (fun x h1 => ty x h1 ∧ wl ρ h1 (fun xs h2 => f x xs h2 Q) X) X
theorem ae_bm {T id : String} {name : Str} {rv : V → List V → Hp → VK → Prop} {f : D → List D → AH → KD → Prop} {ty : D → AH → Prop} {apos cpos : Pos} (M : MeD X.K T rv f ty) (hm : MtR X id rv)
    (pa : PlainAttrs T) (slot : Slot T name id) (hty : typeOf (.builtin id) = pure (.type "method_descriptor")) (ho : AE X E o wo) (ha : AA X E (e :: es) wl)
    (hbase : attributeBase o name X.env (eval o X.env) = eval o X.env := by rfl)
    (hfew : ((backTo cpos (starEach (e :: es) X.env)).all (fun x => !x.1) && (backToKw cpos (keywordEach [] X.env)).all (fun x => x.1.isSome)
      && decide ((e :: es).length + ([] : List Keyword).length + (if ([] : List Keyword).isEmpty then 0 else 1) < 30)) = true := by rfl)
    (hline : (apos.endLine == cpos.line) = true := by rfl) (hs : starEach (e :: es) X.env = (false, eval e X.env) :: starEach es X.env := by rfl) (hplain : (backTo cpos (starEach es X.env)).any (·.1) = false := by rfl) :
    AE X E (.Call (.Attribute o name apos) (e :: es) [] cpos) (wMethT ty f wo wl) := by
  refine ⟨PE.imp (pe_bm pa slot hty hm ho.run ha.run hbase hfew hline hs hplain) fun σ H Q ⟨F, ρ, g, S, R, q⟩ => ?_, fun ρ h Q Q' X X' hq hx q => ho.mo _ _ _ _ _ _ (fun x h1 z => ⟨z.1, ha.mo _ _ _ _ _ _ (fun xs h2 z => M.mo hq z) hx z.2⟩) hx q⟩
  refine ⟨F, ρ, g, S, R, ho.mo _ _ _ _ _ _ (fun x h1 z => ?_) (fun _ _ z => z) q⟩
  intro F1 H1 vx e1 S1 rx
  refine ⟨M.ty S1 rx z.1, F1, ρ, h1, S1, R.ext e1, ha.mo _ _ _ _ _ _ (fun xs h2 z => ?_) (fun _ _ z => LX.ext e1 z) z.2⟩
  intro F2 H2 vs e2 S2 rs
  exact M.to S2 (rx.ext e2) rs (M.mo (fun _ _ z => LQ.ext (e1.trans e2) z) z)
def isL (x : D) (h : AH) : Prop := ∃ xs, lstOf h x = some xs
theorem isL_ty {K : PySem.W.Frag} {F : Hp} {h : AH} {H : Hp} {x : D} {v : V} (S : Sim K F h H) (r : Rep K F x v) (t : isL x h) : tyV K "list" v H := by
  obtain ⟨xs, e⟩ := t
  obtain ⟨a, vs, rfl, ha, _⟩ := S.lstOf r e
  exact .inl ⟨rfl, vs, .of ha⟩
def dAppend (x : D) (ys : List D) (h : AH) (Q : KD) : Prop := ∃ a xs y, x = .ref a ∧ ys = [y] ∧ h a = some (.lst xs) ∧ xs.length < sizeLine ∧ Q .non (up h a (.lst (xs ++ [y])))
theorem dAppend_ok {K : PySem.W.Frag} : MeD K "list" rAppend dAppend isL where
  ty := isL_ty
  mo := fun hq ⟨a, xs, y, e1, e2, e3, e4, q⟩ => ⟨a, xs, y, e1, e2, e3, e4, hq _ _ q⟩
  to := by
    rintro F h H x ys vx vs Q S rx rs ⟨a, xs, y, rfl, rfl, e, l, q⟩
    cases rx
    cases rs with
    | cons r rs =>
      cases rs
      obtain ⟨_, u, hu, us, rfl, ru⟩ := S.ob _ _ e
      exact ⟨a, us, _, rfl, rfl, hu, by rw [← ru.length]; exact l, q F _ _ (.refl F) (S.put e (o := .lst (xs ++ [y])) ⟨_, rfl, ru.append (.cons r .nil)⟩) .non⟩
theorem ae_append {apos cpos : Pos} (ho : AE X E o wo) (ha : AA X E [e] wl) (hbase : attributeBase o "append" X.env (eval o X.env) = eval o X.env := by rfl)
    (hfew : ((backTo cpos (starEach [e] X.env)).all (fun x => !x.1) && (backToKw cpos (keywordEach [] X.env)).all (fun x => x.1.isSome) && decide ([e].length + ([] : List Keyword).length + (if ([] : List Keyword).isEmpty then 0 else 1) < 30)) = true := by rfl)
    (hline : (apos.endLine == cpos.line) = true := by rfl) (hs : starEach [e] X.env = (false, eval e X.env) :: starEach [] X.env := by rfl) (hplain : (backTo cpos (starEach [] X.env)).any (·.1) = false := by rfl) :
    AE X E (.Call (.Attribute o "append" apos) [e] [] cpos) (wMethT isL dAppend wo wl) :=
  ae_bm dAppend_ok mt_append PySem.F.plainAttrs_list PySem.F.slot_list_append PySem.F.type_list_append ho ha hbase hfew hline hs hplain
end
/-! ### built-ins -/
def lenD (h : AH) (x : D) : Option Nat := match cur h x with
  | .tup xs => some xs.length
  | .tpl xs => some xs.length
  | .lst xs => some xs.length
  | .dK xs => some xs.length
  | .str s => some s.length
  | _ => none
def dLen (ds : List D) (h : AH) (Q : KD) : Prop := match ds with
  | [.str s] => s.length ≤ sizeLine ∧ Q (.int s.length) h
  | [x] => ∃ n, lenD h x = some n ∧ Q (.int (n : Nat)) h
  | _ => False
def dAbs (ds : List D) (h : AH) (Q : KD) : Prop := match ds with
  | [.int i] => Q (.int (if i < 0 then -i else i)) h
  | _ => False
def dInt (ds : List D) (h : AH) (Q : KD) : Prop := match ds with
  | [.int i] => Q (.int i) h
  | [.bl b] => Q (.int (if b then 1 else 0)) h
  | _ => False
def dListOf (m : Bool) (ds : List D) (h : AH) (Q : KD) : Prop := ∃ x xs, ds = [x] ∧ seqOf h x = some xs ∧ newL m xs h Q
def dTupOf (ds : List D) (h : AH) (Q : KD) : Prop := ∃ x xs, ds = [x] ∧ seqOf h x = some xs ∧ Q (.tup xs) h
def tyD (h : AH) (x : D) : Option String := match cur h x with
  | .non => some "NoneType"
  | .bl _ => some "bool"
  | .int _ => some "int"
  | .str _ => some "str"
  | .tup _ => some "tuple"
  | .tpl _ => some "tuple"
  | .lst _ => some "list"
  | .dK _ => some "dict"
  | .dT _ => some "dict"
  | _ => none
def dIsi (ds : List D) (h : AH) (Q : KD) : Prop := ∃ x t n b, ds = [x, .ty n] ∧ tyD h x = some t ∧ L2.kitB t n = some b ∧ Q (.bl b) h
def dRepr (ds : List D) (h : AH) (Q : KD) : Prop := ∃ x, ds = [x] ∧ dat (cur h x) = true ∧ (pd (cur h x)).showable = true ∧ (pd (cur h x)).depth ≤ 60 ∧ (pd (cur h x)).shown.length ≤ sizeLine ∧ Q (.str (pd (cur h x)).shown) h
end DL
namespace DL
open PySem PySem.Spec L2 C8
section
variable {K : PySem.W.Frag} {F : Hp} {h : AH} {H : Hp}
theorem Reps.one {d : D} {vs : List V} (r : Reps K F [d] vs) : ∃ v, vs = [v] ∧ Rep K F d v := by
  cases r with | cons r rs => cases rs; exact ⟨_, rfl, r⟩
theorem Reps.two {d e : D} {vs : List V} (r : Reps K F [d, e] vs) : ∃ v w, vs = [v, w] ∧ Rep K F d v ∧ Rep K F e w := by
  cases r with | cons r rs => cases rs with | cons q qs => cases qs; exact ⟨_, _, rfl, r, q⟩
end
section
variable {X : Cx}
theorem dAbs_ok : CaD X (.builtin "abs") dAbs where
  ex := ⟨_, call_abs, fun {F h H ds vs Q} S r q => by
    unfold dAbs at q; split at q
    · obtain ⟨v, rfl, r1⟩ := r.one; cases r1; exact ⟨_, rfl, q.at S (.int _)⟩
    · exact q.elim⟩
  mo := fun {ds h Q Q'} hq q => by
    unfold dAbs at *; split at q
    · exact hq _ _ q
    · exact q.elim
theorem dInt_ok : CaD X (.type "int") dInt where
  ex := ⟨_, call_int1, fun {F h H ds vs Q} S r q => by
    unfold dInt at q; split at q
    · obtain ⟨v, rfl, r1⟩ := r.one; cases r1; exact .inl ⟨_, rfl, q.at S (.int _)⟩
    · obtain ⟨v, rfl, r1⟩ := r.one; cases r1; exact .inr ⟨_, rfl, q.at S (.int _)⟩
    · exact q.elim⟩
  mo := fun {ds h Q Q'} hq q => by
    unfold dInt at *; split at q
    · exact hq _ _ q
    · exact hq _ _ q
    · exact q.elim
theorem dListOf_ok {m : Bool} : CaD X (.type "list") (dListOf m) where
  ex := ⟨_, call_list_of, fun {F h H ds vs Q} S r q => by
    obtain ⟨x, xs, rfl, e, q⟩ := q
    obtain ⟨v, rfl, r1⟩ := r.one
    obtain ⟨a, us, rfl, ha, rs⟩ := S.seqOf r1 e
    exact ⟨a, us, rfl, ha, S.newL rs q⟩⟩
  mo := fun {ds h Q Q'} hq ⟨x, ns, e, e2, q⟩ => ⟨x, ns, e, e2, newL_mo hq q⟩
theorem dTupOf_ok : CaD X (.type "tuple") dTupOf where
  ex := ⟨_, call_tuple_of, fun {F h H ds vs Q} S r q => by
    obtain ⟨x, xs, rfl, e, q⟩ := q
    obtain ⟨v, rfl, r1⟩ := r.one
    by_cases c : ∃ ys, x = .tup ys
    · obtain ⟨ys, rfl⟩ := c
      cases e
      cases r1 with
      | @tup a _ ws hs rs => exact ⟨a, ws, rfl, .inr ⟨sqt_of S.fz hs, q.at S (.tup hs rs)⟩⟩
    by_cases c2 : ∃ ys, x = .tpl ys
    · obtain ⟨ys, rfl⟩ := c2
      cases e
      cases r1 with
      | @tpl a _ _ ws hs _ rs => exact ⟨a, ws, rfl, .inr ⟨sqt_of S.fz (.inl (.inr ⟨_, hs⟩)), q.at S (.tup (.inl (.inr ⟨_, hs⟩)) rs)⟩⟩
    · have e' : lstOf h x = some xs := by
        cases x <;> first | exact e | exact absurd ⟨_, rfl⟩ c | exact absurd ⟨_, rfl⟩ c2
      obtain ⟨a, us, rfl, ha, rs⟩ := S.lstOf r1 e'
      exact ⟨a, us, rfl, .inl ⟨.of ha, S.newT rs q⟩⟩⟩
  mo := fun {ds h Q Q'} hq ⟨x, ns, e, e2, q⟩ => ⟨x, ns, e, e2, hq _ _ q⟩
def rLenD (K : PySem.W.Frag) : List V → Hp → VK → Prop := fun xs H Q => (∃ z, xs = [V.str z] ∧ z.length ≤ sizeLine ∧ Q (.int z.length) H) ∨ ((∃ p ys, xs = [V.ref p] ∧ (SqL K H p ys ∨ SqT K H p ys) ∧ Q (.int ys.length) H) ∨ ∃ a kvs, xs = [V.ref a] ∧ H a = some (.dK kvs) ∧ Q (.int kvs.length) H)
theorem RepK.length {K : PySem.W.Frag} {F : Hp} : ∀ {xs : List (Key × D)} {vs : List (Key × V)}, RepK K F xs vs → xs.length = vs.length
  | _, _, .nil => rfl
  | _, _, .cons _ t => by simp [RepK.length t]
theorem dLen_ok : CaD X (.builtin "len") dLen where
  ex := ⟨rLenD X.K, CallR.or call_len_str (CallR.or call_len_seq call_lenD), fun {F h H ds vs Q} S r q => by
    unfold dLen at q
    split at q
    · obtain ⟨v, rfl, r1⟩ := r.one; cases r1
      exact .inl ⟨_, rfl, q.1, q.2.at S (.int _)⟩
    · obtain ⟨n, e, q⟩ := q
      obtain ⟨v, rfl, r1⟩ := r.one
      cases r1 with
      | ref a =>
        cases ea : h a with
        | none => simp [lenD, cur, ea] at e
        | some o =>
          obtain ⟨_, u, hu, ro⟩ := S.ob _ _ ea
          cases o with
          | lst xs =>
            obtain ⟨us, rfl, rs⟩ := ro
            simp only [lenD, cur, ea, Option.some.injEq] at e
            subst e
            exact .inr (.inl ⟨a, us, rfl, .inl (.of hu), by rw [← rs.length]; exact q.at S (.int _)⟩)
          | dK xs =>
            obtain ⟨us, rfl, rs⟩ := ro
            simp only [lenD, cur, ea, Option.some.injEq] at e
            subst e
            exact .inr (.inr ⟨a, us, rfl, hu, by rw [← rs.length]; exact q.at S (.int _)⟩)
          | dT _ => simp [lenD, cur, ea] at e
          | ins _ _ => simp [lenD, cur, ea] at e
          | lck _ => simp [lenD, cur, ea] at e
          | lckK _ _ => simp [lenD, cur, ea] at e
          | tab _ => simp [lenD, cur, ea] at e
      | @tup a xs us hs rs =>
        simp only [lenD, cur, Option.some.injEq] at e
        subst e
        exact .inr (.inl ⟨a, us, rfl, .inr (sqt_of S.fz hs), by rw [← rs.length]; exact q.at S (.int _)⟩)
      | @tpl a ob xs us hs hd rs =>
        simp only [lenD, cur, Option.some.injEq] at e
        subst e
        exact .inr (.inl ⟨a, us, rfl, .inr (sqt_of S.fz (.inl (.inr ⟨_, hs⟩))), by rw [← rs.length]; exact q.at S (.int _)⟩)
      | @lst a xs us hs rs =>
        simp only [lenD, cur, Option.some.injEq] at e
        subst e
        exact .inr (.inl ⟨a, us, rfl, .inl (.of (S.fz _ _ hs)), by rw [← rs.length]; exact q.at S (.int _)⟩)
      | @dK a xs us hs rs =>
        simp only [lenD, cur, Option.some.injEq] at e
        subst e
        exact .inr (.inr ⟨a, us, rfl, S.fz _ _ hs, by rw [← rs.length]; exact q.at S (.int _)⟩)
      | dT _ _ => simp [lenD, cur] at e
      | str s => rename_i hn; exact absurd rfl (hn s)
      | non => simp [lenD, cur] at e
      | bl _ => simp [lenD, cur] at e
      | int _ => simp [lenD, cur] at e
      | ty _ => simp [lenD, cur] at e
      | lk _ _ => simp [lenD, cur] at e
      | ob _ _ => simp [lenD, cur] at e
      | xob0 _ => simp [lenD, cur] at e
      | lam _ _ => simp [lenD, cur] at e
      | xob _ _ _ => simp [lenD, cur] at e
    · exact q.elim⟩
  mo := fun {ds h Q Q'} hq q => by
    unfold dLen at *; split at q
    · exact ⟨q.1, hq _ _ q.2⟩
    · obtain ⟨n, e, q⟩ := q; exact ⟨n, e, hq _ _ q⟩
    · exact q.elim
/-- the type of a value -/
theorem Sim.tyD {K : PySem.W.Frag} {F : Hp} {h : AH} {H : Hp} {x : D} {v : V} {t : String} (S : Sim K F h H) (r : Rep K F x v) (e : DL.tyD h x = some t) : TyX K H v (.type t) := by
  cases r with
  | ref a =>
    cases ea : h a with
    | none => simp [DL.tyD, cur, ea] at e
    | some o =>
      obtain ⟨_, u, hu, ro⟩ := S.ob _ _ ea
      cases o with
      | lst xs => obtain ⟨us, rfl, rs⟩ := ro; simp only [DL.tyD, cur, ea, Option.some.injEq] at e; subst e; exact .base (.lst hu)
      | dK xs => obtain ⟨us, rfl, rs⟩ := ro; simp only [DL.tyD, cur, ea, Option.some.injEq] at e; subst e; exact .base (.dK hu)
      | dT xs => obtain ⟨us, rfl, rs⟩ := ro; simp only [DL.tyD, cur, ea, Option.some.injEq] at e; subst e; exact .base (.dT hu)
      | ins _ _ => simp [DL.tyD, cur, ea] at e
      | lck _ => simp [DL.tyD, cur, ea] at e
      | lckK _ _ => simp [DL.tyD, cur, ea] at e
      | tab _ => simp [DL.tyD, cur, ea] at e
  | non => simp only [DL.tyD, cur, Option.some.injEq] at e; subst e; exact .base .non
  | bl b => simp only [DL.tyD, cur, Option.some.injEq] at e; subst e; exact .base (.bl b)
  | int i => simp only [DL.tyD, cur, Option.some.injEq] at e; subst e; exact .base (.int i)
  | str s => simp only [DL.tyD, cur, Option.some.injEq] at e; subst e; exact .base (.str s)
  | ty n => simp [DL.tyD, cur] at e
  | lk _ _ => simp [DL.tyD, cur] at e
  | ob _ _ => simp [DL.tyD, cur] at e
  | xob0 _ => simp [DL.tyD, cur] at e
  | lam _ _ => simp [DL.tyD, cur] at e
  | xob _ _ _ => simp [DL.tyD, cur] at e
  | tup hs rs =>
    simp only [DL.tyD, cur, Option.some.injEq] at e; subst e
    rcases sqt_of S.fz hs with (q | ⟨o, q⟩) | ⟨o, its, n, q, c, _⟩
    · exact .base (.tup q)
    · exact .fTuple q
    · exact .kTuple q c
  | tpl hs hd rs => simp only [DL.tyD, cur, Option.some.injEq] at e; subst e; exact .fTuple (S.fz _ _ hs)
  | lst hs rs => simp only [DL.tyD, cur, Option.some.injEq] at e; subst e; exact .base (.lst (S.fz _ _ hs))
  | dK hs rs => simp only [DL.tyD, cur, Option.some.injEq] at e; subst e; exact .base (.dK (S.fz _ _ hs))
  | dT hs rs => simp only [DL.tyD, cur, Option.some.injEq] at e; subst e; exact .base (.dT (S.fz _ _ hs))
theorem dIsi_ok : CaD X (.builtin "isinstance") dIsi where
  ex := ⟨_, call_isi, fun {F h H ds vs Q} S r q => by
    obtain ⟨x, t, n, b, rfl, et, eb, q⟩ := q
    obtain ⟨v, w, rfl, r1, r2⟩ := r.two
    cases r2
    exact ⟨v, .ty n, .type t, .type n, b, rfl, .ty n, S.tyD r1 et, kit_ty eb, q.at S (.bl _)⟩⟩
  mo := fun {ds h Q Q'} hq ⟨x, t, n, b, e, e1, e2, q⟩ => ⟨x, t, n, b, e, e1, e2, hq _ _ q⟩
/-! ### repr -/
theorem call_reprD (hg : X.A.guards = some []) (hu : X.A.units + 64 < cLine) : CallR X (.builtin "repr") (fun vs H Q => ∃ x d, vs = [x] ∧ Dp X.K H x d ∧ d.hasDict = false ∧ d.showable = true ∧ d.depth ≤ 60 ∧ d.shown.length ≤ sizeLine ∧ Q (.str d.shown) H) := by
  intro pins s σ H xs us Q I r h
  obtain ⟨x, d, rfl, hd, hn, hs, dp, hz, q⟩ := h
  obtain ⟨u, rfl, rx⟩ : ∃ u, us = [u] ∧ RelV x u := by cases r with | cons r t => cases t; exact ⟨_, rfl, r⟩
  obtain ⟨as, rd⟩ := Dp.reads I d x u hd rx
  cases rd with
  | none => exact PySem.P.repr_of_none ⟨.str _, H, I.tok _, ⟨_, rfl⟩, by rw [PyData.shown] at q; exact q⟩
  | bool b => exact PySem.P.repr_of_bool ⟨.str _, H, I.tok _, ⟨_, rfl⟩, by rw [PyData.shown] at q; exact q⟩
  | int i t =>
    refine PySem.P.repr_of_int (by rw [PyData.showable] at hs; exact of_decide_eq_true hs) ⟨.str _, H, I.tok _, ⟨_, rfl⟩, by rw [PyData.shown] at q; exact q⟩
  | str x t => exact PySem.P.repr_of_str ⟨.str _, H, I.tok _, ⟨_, rfl⟩, by rw [PyData.shown] at q; exact q⟩ (by rw [PyData.shown] at hz; exact hz)
  | list a b c e => exact repr_of_reads' (.list a b c e) hs (fun z => by rw [hn] at z; cases z) hg (by omega) (fun _ _ z => z) (fun h' u tk k => ⟨.str _, H, I.kept k, ⟨_, rfl⟩, q⟩) hz
  | tuple a b c e => exact repr_of_reads' (.tuple a b c e) hs (fun z => by rw [hn] at z; cases z) hg (by omega) (fun _ _ z => z) (fun h' u tk k => ⟨.str _, H, I.kept k, ⟨_, rfl⟩, q⟩) hz
  | dict _ _ _ _ _ => cases hd
mutual
theorem noDict : ∀ d : D, (pd d).hasDict = false
  | .non => by rw [pd, PyData.hasDict]
  | .bl _ => by rw [pd, PyData.hasDict]
  | .int _ => by rw [pd, PyData.hasDict]
  | .str _ => by rw [pd, PyData.hasDict]
  | .tup xs => by rw [pd, PyData.hasDict]; exact noDicts xs
  | .tpl xs => by rw [pd, PyData.hasDict]; exact noDicts xs
  | .lst xs => by rw [pd, PyData.hasDict]; exact noDicts xs
  | .ref _ => by rw [pd, PyData.hasDict]
  | .ty _ => by rw [pd, PyData.hasDict]
  | .lk _ => by rw [pd, PyData.hasDict]
  | .ob _ _ => by rw [pd, PyData.hasDict]
  | .xob _ _ => by rw [pd, PyData.hasDict]
  | .lam _ _ _ _ _ => by rw [pd, PyData.hasDict]
  | .dK _ => by rw [pd, PyData.hasDict]
  | .dT _ => by rw [pd, PyData.hasDict]
theorem noDicts : ∀ ds : List D, PyData.hasDictAll (pds ds) = false
  | [] => by rw [pds, PyData.hasDictAll]
  | d :: ds => by rw [pds, PyData.hasDictAll, noDict d, noDicts ds]; rfl
end
theorem dRepr_ok (hg : X.A.guards = some []) (hu : X.A.units + 64 < cLine) : CaD X (.builtin "repr") dRepr where
  ex := ⟨_, call_reprD hg hu, fun {F h H ds vs Q} S r q => by
    obtain ⟨x, rfl, e1, e2, e3, e4, q⟩ := q
    obtain ⟨v, rfl, r1⟩ := r.one
    exact ⟨v, _, rfl, S.curDp r1 e1, noDict _, e2, e3, e4, q.at S (.str _)⟩⟩
  mo := fun {ds h Q Q'} hq ⟨x, e, e1, e2, e3, e4, q⟩ => ⟨x, e, e1, e2, e3, e4, hq _ _ q⟩
end
end DL
namespace DL
open PySem PySem.Spec L2 C8
/-! ### one more built-in runs around -/
/-! ### d.items() as a value, d with keys that are ints or texts -/
def rItemsV : V → List V → Hp → VK → Prop := fun x xs H Q => ∃ (a : Addr) (kvs : List (Key × V)), x = .ref a ∧ xs = [] ∧ H a = some (.dK kvs) ∧ ∀ p, H p = none → Q (.ref p) (upd H p (L2.DX.itemsO p a))
section
variable {X : Cx}
theorem mt_itemsV : MtR X "dict.items" rItemsV := by
  intro pins s σ H x xs v us Q I rx rs h
  obtain ⟨a, kvs, rfl, rfl, ha, q⟩ := h
  cases rx
  cases rs
  obtain ⟨z, hd, vs, kv, o, es, ep, ho, hx, hdt, _⟩ := dk_of I.hok ha
  have hf : H s.heap.objs.size = none := I.hok.fresh (Nat.le_refl _)
  refine DT.callItems (es := es) (ep := ep) hd ⟨o, ho, hx, hdt⟩ ?_
  exact ⟨.ref s.heap.objs.size, _, I.laid (t' := s.toks) (fun b u e => Heap.get?_push_of_some _ e) (Nat.le_refl _) (L2.DX.itemsO_ok (Heap.get?_push_size _ rfl)), rfl, q _ hf⟩
end
end DL
namespace DL
open PySem PySem.Spec L2 C8
/-! ### dicts with keys that are ints or texts -/
def keyD : D → Option Key
  | .int i => some (.inl i)
  | .str s => some (.inr s)
  | _ => none
def valD (kvs : List (Key × D)) (k : Key) : Option D := (kvs.find? fun kv => decide (kv.1 = k)).map (·.2)
def putD (kvs : List (Key × D)) (k : Key) (v : D) : List (Key × D) :=
  if (kvs.any fun kv => decide (kv.1 = k)) = true then kvs.map (fun kv => if kv.1 = k then (kv.1, v) else kv) else kvs ++ [(k, v)]
def dkOf (h : AH) : D → Option (List (Key × D))
  | .dK xs => some xs
  | .ref a => match h a with
    | some (.dK xs) => some xs
    | _ => none
  | _ => none
section
variable {K : PySem.W.Frag} {F : Hp} {h : AH} {H : Hp} {d : D} {v : V}
theorem RepK.val : ∀ {kvs : List (Key × D)} {vs : List (Key × V)}, RepK K F kvs vs → ∀ k : Key, (valD kvs k = none ∧ valV vs k = none) ∨ ∃ d v, valD kvs k = some d ∧ valV vs k = some v ∧ Rep K F d v
  | _, _, .nil, k => .inl ⟨rfl, rfl⟩
  | _, _, @RepK.cons _ _ k0 x u xs us r t, k => by
    by_cases c : k0 = k
    · subst c
      exact .inr ⟨x, u, by simp [valD], by simp [valV], r⟩
    · have e1 : valD ((k0, x) :: xs) k = valD xs k := by simp [valD, List.find?_cons, c]
      have e2 : valV ((k0, u) :: us) k = valV us k := by simp [valV, List.find?_cons, c]
      rw [e1, e2]
      exact RepK.val t k
theorem RepK.keys : ∀ {kvs : List (Key × D)} {vs : List (Key × V)}, RepK K F kvs vs → kvs.map (·.1) = vs.map (·.1)
  | _, _, .nil => rfl
  | _, _, .cons _ t => by simp [RepK.keys t]
theorem RepK.append : ∀ {xs ys : List (Key × D)} {vs ws : List (Key × V)}, RepK K F xs vs → RepK K F ys ws → RepK K F (xs ++ ys) (vs ++ ws)
  | _, _, _, _, .nil, s => s
  | _, _, _, _, .cons h t, s => .cons h (RepK.append t s)
theorem RepK.any : ∀ {kvs : List (Key × D)} {vs : List (Key × V)}, RepK K F kvs vs → ∀ k : Key, (kvs.any fun kv => decide (kv.1 = k)) = (vs.any fun kv => decide (kv.1 = k))
  | _, _, .nil, _ => rfl
  | _, _, .cons _ t, k => by simp only [List.any_cons]; rw [RepK.any t k]
theorem RepK.repl {k : Key} {x : D} {u : V} (r : Rep K F x u) : ∀ {kvs : List (Key × D)} {vs : List (Key × V)}, RepK K F kvs vs → RepK K F (kvs.map fun kv => if kv.1 = k then (kv.1, x) else kv) (vs.map fun kv => if kv.1 = k then (kv.1, u) else kv)
  | _, _, .nil => .nil
  | _, _, @RepK.cons _ _ k0 y w ys ws q t => by
    simp only [List.map_cons]
    by_cases c : k0 = k
    · rw [if_pos c, if_pos c]; exact .cons r (RepK.repl r t)
    · rw [if_neg c, if_neg c]; exact .cons q (RepK.repl r t)
theorem RepK.put {kvs : List (Key × D)} {vs : List (Key × V)} (t : RepK K F kvs vs) (k : Key) {x : D} {u : V} (r : Rep K F x u) : RepK K F (putD kvs k x) (putK vs k u) := by
  unfold putD putK
  rw [t.any k]
  split
  · exact RepK.repl r t
  · exact t.append (.cons r .nil)
theorem keyD_to {d : D} {v : V} {k : Key} (r : Rep K F d v) (e : keyD d = some k) : v = kV k := by
  cases r <;> first | (simp [keyD] at e; done) | (simp only [keyD, Option.some.injEq] at e; subst e; rfl)
theorem Sim.dkOf {kvs : List (Key × D)} (S : Sim K F h H) (r : Rep K F d v) (e : DL.dkOf h d = some kvs) : ∃ a vs, v = .ref a ∧ H a = some (.dK vs) ∧ RepK K F kvs vs := by
  cases r with
  | ref a =>
    cases q : h a with
    | none => simp [DL.dkOf, q] at e
    | some o =>
      cases o with
      | dK ys =>
        simp only [DL.dkOf, q, Option.some.injEq] at e
        subst e
        obtain ⟨_, u, hu, vs, rfl, rs⟩ := S.ob _ _ q
        exact ⟨a, vs, rfl, hu, rs⟩
      | lst _ => simp [DL.dkOf, q] at e
      | dT _ => simp [DL.dkOf, q] at e
      | ins _ _ => simp [DL.dkOf, q] at e
      | lck _ => simp [DL.dkOf, q] at e
      | lckK _ _ => simp [DL.dkOf, q] at e
      | tab _ => simp [DL.dkOf, q] at e
  | @dK a ys vs hf rs =>
    cases e
    exact ⟨a, vs, rfl, S.fz _ _ hf, rs⟩
  | non => cases e
  | bl _ => cases e
  | int _ => cases e
  | str _ => cases e
  | ty _ => cases e
  | lk _ _ => cases e
  | ob _ _ => cases e
  | xob0 _ => cases e
  | lam _ _ => cases e
  | xob _ _ _ => cases e
  | tup _ _ => cases e
  | tpl _ _ _ => cases e
  | lst _ _ => cases e
  | dT _ _ => cases e
/-- what stands anew behind a call is taken as what does not change -/
theorem Sim.grow {H' : Hp} (S : Sim K F h H) (sm : ∀ b o, H b = some o → H' b = some o) (P : Addr → Bool) : ∃ F', Ext F F' ∧ Sim K F' h H' ∧ (∀ b, H b = none → P b = true → F' b = H' b) ∧ ∀ b, H b = none → P b = false → ∀ o, F' b ≠ some o := by
  refine ⟨fun b => if (H b).isNone = true ∧ P b = true then H' b else F b, fun b o e => ?_, ⟨fun b o e => ?_, fun b o e => ?_⟩, fun b e p => ?_, fun b e p o q => ?_⟩
  · have : H b = some o := S.fz _ _ e
    show (if (H b).isNone = true ∧ P b = true then H' b else F b) = some o
    rw [this]; simp [e]
  · split at e
    · exact e
    · exact sm _ _ (S.fz _ _ e)
  · obtain ⟨f, u, hu, r⟩ := S.ob _ _ e
    refine ⟨by simp [hu, f], u, sm _ _ hu, r.ext fun c w q => ?_⟩
    have : H c = some w := S.fz _ _ q
    simp [this, q]
  · simp [e, p]
  · simp [p, (S.free e).1] at q
end
section
variable {X : Cx} {E : XK} {k : Nat} {o i e f value : Expr} {wo wi we wf wv : WE} {pos cpos apos pos' p : Pos}
def wDnew : WE := fun _ h Q _ => ∀ p, h p = none → Q (.ref p) (up h p (.dK []))
theorem ae_dnew : AE X E (.Dict [] [] pos) wDnew := by
  refine ⟨PE.imp pe_dnewK fun σ H Q ⟨F, ρ, h, S, R, q⟩ => ?_, fun ρ h Q Q' X X' hq _ q p e => hq _ _ (q p e)⟩
  intro p hp
  obtain ⟨f, g⟩ := S.free hp
  exact q p g F _ _ (.refl F) (S.newM hp (o := .dK []) ⟨[], rfl, .nil⟩) (.ref p)
/-- d.get(k, x) -/
def wGet2 (wo wi wx : WE) : WE := fun ρ h Q X => wo ρ h (fun x h1 => (dkOf h1 x).isSome = true ∧ wi ρ h1 (fun y h2 => wx ρ h2 (fun z h3 => ∃ kvs k, dkOf h3 x = some kvs ∧ keyD y = some k ∧ Q ((valD kvs k).getD z) h3) X) X) X
theorem ae_get2 (c : Cg gz X E k) (ho : AE X E o wo) (he : AE X E e we) (hf : AE X E f wf) (m : M2 X o "get" apos e f cpos) : AE X E (.Call (.Attribute o "get" apos) [e, f] [] cpos) (wGet2 wo we wf) := by
  refine ⟨PE.imp (pe_dget2 (hu_of c.room) ho.run he.run hf.run m) fun σ H Q ⟨F, ρ, h, S, R, q⟩ => ?_, fun ρ h Q Q' X X' hq hx q => ho.mo _ _ _ _ _ _ (fun x h1 z => ⟨z.1, he.mo _ _ _ _ _ _ (fun y h2 z => hf.mo _ _ _ _ _ _ (fun w h3 ⟨kvs, k, e1, e2, z⟩ => ⟨kvs, k, e1, e2, hq _ _ z⟩) hx z) hx z.2⟩) hx q⟩
  refine ⟨F, ρ, h, S, R, ho.mo _ _ _ _ _ _ (fun x h1 z => ?_) (fun _ _ z => z) q⟩
  intro F1 H1 v e1 S1 r
  obtain ⟨kv0, hk0⟩ := Option.isSome_iff_exists.mp z.1
  obtain ⟨a, vs, rfl, ha, rs⟩ := S1.dkOf r hk0
  refine ⟨a, rfl, .inl ⟨vs, .of ha⟩, F1, ρ, h1, S1, R.ext e1, he.mo _ _ _ _ _ _ (fun y h2 z => ?_) (fun _ _ z => LX.ext e1 z) z.2⟩
  intro F2 H2 vy e2 S2 ry
  refine ⟨F2, ρ, h2, S2, R.ext (e1.trans e2), hf.mo _ _ _ _ _ _ (fun w h3 z => ?_) (fun _ _ z => LX.ext (e1.trans e2) z) z⟩
  intro F3 H3 vw e3 S3 rw'
  obtain ⟨kvs, kk, ek, ey, z⟩ := z
  obtain ⟨a', vs', ea, ha', rs'⟩ := S3.dkOf (r.ext (e2.trans e3)) ek
  cases ea
  have hy := keyD_to (ry.ext e3) ey
  have e123 := e1.trans (e2.trans e3)
  rcases rs'.val kk with ⟨n1, n2⟩ | ⟨d, v, n1, n2, rv⟩
  · refine ⟨none, .inl ⟨vs', kk, .of ha', hy, n2.symm⟩, ?_⟩
    rw [n1] at z
    exact z F3 H3 _ e123 S3 rw'
  · refine ⟨some v, .inl ⟨vs', kk, .of ha', hy, n2.symm⟩, ?_⟩
    rw [n1] at z
    exact z F3 H3 _ e123 S3 rv
/-- d[k] -/
def wDGet (wo wi : WE) : WE := fun ρ h Q X => wo ρ h (fun x h1 => wi ρ h1 (fun y h2 => ∃ kvs k d, dkOf h2 x = some kvs ∧ keyD y = some k ∧ valD kvs k = some d ∧ Q d h2) X) X
theorem ae_dget (c : Cg gz X E k) (ho : AE X E o wo) (hi : AE X E i wi) (hs : NoSl i) : AE X E (.Subscript o i pos) (wDGet wo wi) := by
  refine ⟨PE.imp (pe_dget (hu_of c.room) ho.run hi.run hs) fun σ H Q ⟨F, ρ, h, S, R, q⟩ => ?_, fun ρ h Q Q' X X' hq hx q => ho.mo _ _ _ _ _ _ (fun x h1 z => hi.mo _ _ _ _ _ _ (fun y h2 ⟨kvs, k, d, e1, e2, e3, z⟩ => ⟨kvs, k, d, e1, e2, e3, hq _ _ z⟩) hx z) hx q⟩
  refine ⟨F, ρ, h, S, R, ho.mo _ _ _ _ _ _ (fun x h1 z => ?_) (fun _ _ z => z) q⟩
  intro F1 H1 v e1 S1 r
  refine ⟨F1, ρ, h1, S1, R.ext e1, hi.mo _ _ _ _ _ _ (fun y h2 z => ?_) (fun _ _ z => LX.ext e1 z) z⟩
  intro F2 H2 vy e2 S2 ry
  obtain ⟨kvs, kk, d, ek, ey, ed, z⟩ := z
  obtain ⟨a, vs, rfl, ha, rs⟩ := S2.dkOf (r.ext e2) ek
  rcases rs.val kk with ⟨n1, n2⟩ | ⟨d', v, n1, n2, rv⟩
  · rw [n1] at ed; cases ed
  · rw [n1] at ed; cases ed
    exact ⟨a, v, rfl, .inl ⟨vs, kk, .of ha, keyD_to ry ey, n2.symm⟩, z F2 H2 _ (e1.trans e2) S2 rv⟩
/-- k in d -/
def dDin (f : Bool → Bool) (y x : D) (h : AH) (Q : KD) : Prop := ∃ kvs k, dkOf h x = some kvs ∧ keyD y = some k ∧ Q (.bl (f (valD kvs k).isSome)) h
/-- d[k] = v -/
def wDput (wo wi wv : WE) : WS := fun D ρ h => wv ρ h (fun z h1 => wo ρ h1 (fun x h2 => wi ρ h2 (fun y h3 => ∃ a kvs k, x = .ref a ∧ h3 a = some (.dK kvs) ∧ keyD y = some k ∧ kvs.length < sizeLine ∧ D.nx ρ (up h3 a (.dK (putD kvs k z)))) D.ex) D.ex) D.ex
theorem as_dput (c : Cg gz X E k) (ho : AE X E o wo) (hi : AE X E i wi) (hv : AE X E value wv) (hs : swapsWith value (some (.Subscript o i pos')) pos.line X.env = pure false := by rfl) : AS X E (.Assign [.Subscript o i pos'] value pos) (wDput wo wi wv) := by
  refine ⟨PS.imp (ps_dput (hu_of c.room) ho.run hi.run hv.run hs) fun D σ H ⟨F, ρ, h, S, R, q⟩ => ?_, fun D D' ρ h l q => hv.mo _ _ _ _ _ _ (fun z h1 q => ho.mo _ _ _ _ _ _ (fun x h2 q => hi.mo _ _ _ _ _ _ (fun y h3 ⟨a, kvs, k, e1, e2, e3, e4, q⟩ => ⟨a, kvs, k, e1, e2, e3, e4, l.nx _ _ q⟩) l.ex q) l.ex q) l.ex q⟩
  refine ⟨F, ρ, h, S, R, hv.mo _ _ _ _ _ _ (fun z h1 q => ?_) (fun _ _ z => z) q⟩
  intro F1 H1 vz e1 S1 rz
  refine ⟨F1, ρ, h1, S1, R.ext e1, ho.mo _ _ _ _ _ _ (fun x h2 q => ?_) (fun _ _ z => LX.ext e1 z) q⟩
  intro F2 H2 vx e2 S2 rx
  refine ⟨F2, ρ, h2, S2, R.ext (e1.trans e2), hi.mo _ _ _ _ _ _ (fun y h3 q => ?_) (fun _ _ z => LX.ext (e1.trans e2) z) q⟩
  intro F3 H3 vy e3 S3 ry
  obtain ⟨a, kvs, kk, rfl, ea, ey, l, q⟩ := q
  have rx := rx.ext e3
  cases rx
  obtain ⟨_, u, hu, vs, rfl, rs⟩ := S3.ob _ _ ea
  have hy := keyD_to ry ey
  subst hy
  exact ⟨a, _, rfl, .inl ⟨vs, kk, hu, rfl, by rw [← rs.length]; exact l, rfl⟩, q F3 _ σ (e1.trans (e2.trans e3)) (S3.put ea (o := .dK (putD kvs kk z)) ⟨_, rfl, rs.put kk (rz.ext (e2.trans e3))⟩) (R.ext (e1.trans (e2.trans e3)))⟩
/-! ### sorted(d.items()), ints to ints -/
def pairD (e : Int × Int) : D := .tup [.int e.1, .int e.2]
end
end DL
namespace PySem
set_option maxHeartbeats 1000000 in
theorem dl_meets_enum1 {v : Value} {o : Obj} {H : Heap → Prop} (B : Begins v o H) :
    Meets (Builtin.«enumerate.__new__» ⟨[.type "enumerate", v], []⟩) (fun _ R s => H s.heap ∧
      R (.ok (.ret (.ref (s.heap.push o).objs.size))) { s with heap := (s.heap.push o).push { cls := .type "enumerate", data := .fields #[.none, .bool false, .ref s.heap.objs.size, rawInt 0, .none, .none] } }) :=
  .of_wp fun prog w A R s h => by
    obtain ⟨hp, gg, dd, tk, os⟩ := s; obtain ⟨h1, h⟩ := h
    have se := sub_enumerate
    have go : ∀ {A' : Around} {E : Value → Shared → Prop} {Q : Value → Shared → Prop}, Q (.ref hp.objs.size) ⟨hp.push o, gg, dd, tk, os⟩ → wpAny (model prog w) A' (pyIter v) Q E ⟨hp, gg, dd, tk, os⟩ :=
      fun q => B.iter prog w _ _ ⟨hp, gg, dd, tk, os⟩ _ h1 q
    wp_walk using go
    refine wpAny_stack_any fun st => wpAny_pure ?_
    split
    · rename_i c _ _ _ _ _
      cases (c == Value.type "enumerate") <;> (wp_walk using go; exact ⟨_, rfl, h⟩)
    · wp_walk using go
      exact ⟨_, rfl, h⟩
section
variable {prog : Program} {w : World} {A : Around} {E : Value → Shared → Prop} {s : Shared}
theorem dl_call_enum {v : Value} {o : Obj} {H : Heap → Prop} {Q : Value → Shared → Prop} (B : Begins v o H) (h1 : H s.heap)
    (h : ∀ h', IsEnum h' (s.heap.objs.size + 1) s.heap.objs.size 0 .none → h'.get? s.heap.objs.size = some o → (∀ b o, s.heap.get? b = some o → h'.get? b = some o) → Q (.ref (s.heap.objs.size + 1)) { s with heap := h' }) :
    wpAny (model prog w) A (call (.type "enumerate") [v]) Q E s := by
  refine callType_new F.called_enumerate (by decide) (F.typeCall_enumerate_1 _) (F.newCall_enumerate_1 _) (fun obj => F.args_object_init_2 obj _) F.entry_enumerate_new (dl_meets_enum1 B) ⟨h1, ?_⟩
  have z : (s.heap.push o).objs.size = s.heap.objs.size + 1 := Heap.size_push ..
  have he := Heap.get?_push_size (s.heap.push o) (o := { cls := .type "enumerate", data := .fields #[.none, .bool false, .ref s.heap.objs.size, rawInt 0, .none, .none] }) rfl
  show _ ∧ _
  rw [z] at he ⊢
  exact ⟨⟨_, he, rfl⟩, h _ he (Heap.get?_push_of_some _ (Heap.get?_push_size _ B.free)) fun b o x => Heap.get?_push_of_some _ (Heap.get?_push_of_some _ x)⟩
end
end PySem
namespace DL
open PySem PySem.Spec L2 C8
/-! ### enumerate(tuple) -/
def Iet (K : PySem.W.Frag) (a : Addr) : It :=
  ⟨fun i H => ∃ (xs : List V) (x : V), SqT K H a xs ∧ xs[i]? = some x, fun i H v H' => ∃ T x, v = .ref T ∧ H T = none ∧ H' = upd H T (.tup [.int (i : Nat), x]) ∧ ∀ xs, SqT K H a xs → xs[i]? = some x, fun i H => ∃ xs : List V, SqT K H a xs ∧ xs.length = i⟩
theorem turn_et {P : Program} {w : World} {K : PySem.W.Frag} {elts : List Expr} {kk : Nat} {tpos : Pos} (a e it : Addr) :
    Turn P w K (.Tuple elts kk tpos) (Iet K a) [e, it] e (fun i h => (∃ old, IsEnum h e it ((i : Nat) : Int) old) ∧ h.IsTupleIter it a i ∧ e ≠ it ∧ e ≠ a ∧ a ≠ it) where
  mem := by simp
  obj := fun i h st b hb => by
    obtain ⟨⟨old, he⟩, ⟨o, ho, hc, hd⟩, _⟩ := st
    rcases (by simpa using hb : b = e ∨ b = it) with z | z <;> subst z
    · exact ⟨_, he, fun v q => nomatch q⟩
    · exact ⟨o, ho, fun v q => by rw [hd] at q; cases q⟩
  keep := fun i h h' st k => let ⟨⟨old, he⟩, hi, n⟩ := st; ⟨⟨old, k e (by simp) _ he⟩, hi.at fun o q => k it (by simp) o q, n⟩
  item := by
    intro X hP hw hK hc i pins s σ H E I hf st hg
    subst hP hw hK
    obtain ⟨⟨old, he⟩, hit, n1, n2, n3⟩ := st
    obtain ⟨xs, x, hq, hx⟩ := hg
    obtain ⟨its, rv, p, hz⟩ := I.tuple hq
    obtain ⟨u, hu, ru⟩ := rv.get hx
    have le : e < s.heap.objs.size := Heap.lt_size he
    have li : it < s.heap.objs.size := by obtain ⟨_, q, _⟩ := hit; exact Heap.lt_size q
    have pT : s.heap.IsTuple a its.toArray := p
    refine wpAny_pyNext_enum_itemD (D := Draws.tuple (A := X.A.in1) (show X.A.in1.handled = none from I.ok.hd hc) it a n3 its.toArray) he ⟨hit, pT⟩ (by obtain ⟨l, _⟩ := List.getElem?_eq_some_iff.mp hu; simpa using l) n1 (by simp [n1, n2]) fun u' h' tk hu' ho hs' hT hsz hk => ?_
    have eu : u' = u := by
      have : its[i]? = some u' := by simpa using hu'
      rw [hu] at this; exact (Option.some.inj this).symm
    subst eu
    refine ⟨_, rfl, wpAny_letOwnedTupleGo_enum (s := { s with heap := h', toks := tk + 1 }) ho fun h'' he' sb => ?_⟩
    have hT2 := (sb.2 _ (Nat.ne_of_gt le)).trans hT
    have new : ObjOk X.prog X.w (upd H s.heap.objs.size (.tup [.int (i : Nat), x])) h'' s.heap.objs.size (.tup [.int (i : Nat), x]) :=
      ⟨by show 2 ≤ sizeLine; decide, [.int i tk, u'], .cons ⟨_, rfl⟩ (.cons ru .nil), ⟨_, hT2, rfl, _, rfl⟩⟩
    have I1 : Inv X pins σ (upd H s.heap.objs.size (.tup [.int (i : Nat), x])) { s with heap := h'', toks := tk + 1 } :=
      I.turnedNew (ch := [e, it]) (fun b ob hb q => (sb.2 b (fun z => hb (by simp [z]))).trans (hk b ob (fun z => hb (by simp [z])) (fun z => hb (by simp [z])) q)) hf (Nat.le_refl _) new
    refine ⟨.ref s.heap.objs.size, _, I1, rfl, ⟨_, x, rfl, I.hok.fresh (Nat.le_refl _), rfl, fun ys hy => by rw [I.tuple_inj hy hq]; exact hx⟩, ⟨⟨u', ?_⟩, hs'.1.at fun o q => (sb.2 it (Ne.symm n1)).trans q, n1, n2, n3⟩, fun b hb => ?_⟩
    · rw [show ((i + 1 : Nat) : Int) = (i : Int) + 1 by omega]; exact he'
    · have hb' : b < s.heap.objs.size := by
        rcases (by simpa using hb : b = e ∨ b = it) with z | z <;> subst z <;> assumption
      rw [upd_ne (Nat.ne_of_lt hb')]
      exact (hf b hb).1
  done := by
    intro X hP hw hK hc i pins s σ H E I hf st hg
    subst hP hw hK
    obtain ⟨⟨old, he⟩, hit, n1, n2, n3⟩ := st
    obtain ⟨xs, hq, hx⟩ := hg
    obtain ⟨its, rv, p, hz⟩ := I.tuple hq
    obtain ⟨f0, f1, f2, f3, f4, f5⟩ := hf it (by simp)
    have pT : s.heap.IsTuple a its.toArray := p
    have hl : its.toArray.size = i := by have := rv.length; simp; omega
    exact wpAny_pyNext_enum_endD (Draws.tuple (A := X.A.in1) (show X.A.in1.handled = none from I.ok.hd hc) it a n3 its.toArray) he ⟨by rw [hl]; exact hit, pT⟩ fun h' eb => ⟨rfl, I.turned (t' := s.toks) (fun b o hb q => eb b o hb q) f0 f1 f3 f4 f5⟩
  self := fun A i s Q E st h => let ⟨⟨_, he⟩, _⟩ := st; wpAny_pyIter_enum he h
def vEnumT (K : PySem.W.Frag) (ta : TA) : TI := fun σ H R => ta σ H fun vs H1 => ∃ a xs, vs = [.ref a] ∧ SqT K H1 a xs ∧ R (Iet K a) H1
theorem pi_et {X : Cx} {e : Expr} {ta : TA} {p pos tpos : Pos} {elts : List Expr} {kk : Nat} (hg : Gl X "enumerate") (hm : X.mg "enumerate" = none) (ha : PA X [e] ta) (hs : starEach [e] X.env = [(false, eval e X.env)] := by rfl) :
    PI X (.Tuple elts kk tpos) (.Call (.Name "enumerate" p) [e] [] pos) (vEnumT X.K ta) := by
  refine ⟨fun pins s σ H R I h => ?_⟩
  refine PyProof.Rows.Call_ (ld_blt I hg hm PyProof.Rows.boot_enumerate (PyProof.Rows.callWith_type1 (thn (ha.run pos pins s σ H _ I h) fun us s1 ⟨vs, H1, I1, r1, q1⟩ => ?_) hs rfl))
  obtain ⟨a, xs, rfl, hq, q⟩ := q1
  cases r1 with
  | cons r rr =>
    cases rr
    cases r
    obtain ⟨its, rv, pp, hz⟩ := I1.tuple hq
    have pT : s1.heap.IsTuple a its.toArray := pp
    have la : a < s1.heap.objs.size := by obtain ⟨_, x, _⟩ := pT; exact Heap.lt_size x
    refine dl_call_enum (begins_tuple a its.toArray) pT fun h' he hi hk => wpAny_pyIter_enum he ?_
    refine ⟨s1.heap.objs.size + 1, [s1.heap.objs.size + 1, s1.heap.objs.size], _, _, H1, rfl, I1.kept (t' := s1.toks) hk, turn_et a (s1.heap.objs.size + 1) s1.heap.objs.size, ⟨⟨.none, he⟩, ⟨_, hi, rfl, rfl⟩, Nat.succ_ne_self _, Nat.ne_of_gt (Nat.lt_succ_of_lt la), Nat.ne_of_lt la⟩, fun b hb => ?_, q⟩
    have hle : s1.heap.objs.size ≤ b := by
      rcases (by simpa using hb : b = s1.heap.objs.size + 1 ∨ b = s1.heap.objs.size) with z | z
      · rw [z]; exact Nat.le_succ _
      · rw [z]; exact Nat.le_refl _
    exact I1.fpOk hle (I1.hok.fresh hle)
/-! ### their readings as data -/
def numD (xs : List D) : List D := (List.range xs.length).zipWith (fun i x => .tup [.int (i : Nat), x]) xs
theorem numD_len {xs : List D} : (numD xs).length = xs.length := by simp [numD]
theorem numD_get {xs : List D} {i : Nat} {d : D} (h : (numD xs)[i]? = some d) : ∃ x, xs[i]? = some x ∧ d = .tup [.int (i : Nat), x] := by
  unfold numD at h
  rw [List.getElem?_zipWith] at h
  by_cases c : i < xs.length
  · rw [List.getElem?_range c, List.getElem?_eq_getElem c] at h
    cases h
    exact ⟨_, List.getElem?_eq_getElem c, rfl⟩
  · rw [List.getElem?_eq_none (l := List.range _) (by simpa using c)] at h
    simp at h
section
variable {K : PySem.W.Frag} {F : Hp} {a : Addr} {xs : List D} {vs : List V}
theorem ItD.numT (q : SqT K F a vs) (r : Reps K F xs vs) : ItD K F (Iet K a) (numD xs) (fun _ => True) where
  go := fun {i F' h0 H} e S s l => by
    rw [numD_len] at l
    obtain ⟨v, hv, _⟩ := r.get (List.getElem?_eq_getElem l)
    exact ⟨vs, v, sqt_of S.fz (e.sqt q), hv⟩
  stop := fun {i F' h0 H} e S s l =>
    by exact ⟨vs, sqt_of S.fz (e.sqt q), by rw [← r.length, ← numD_len]; exact l⟩
  yld := fun {i F' h0 H x H' d} e S s y hd => by
    obtain ⟨T, v, rfl, hT, rfl, y⟩ := y
    obtain ⟨dx, hx, rfl⟩ := numD_get hd
    obtain ⟨v', hv, rv⟩ := r.get hx
    have ey := y vs (sqt_of S.fz (e.sqt q))
    rw [hv] at ey
    obtain rfl := Option.some.inj ey
    have x1 := ext_upd (o := HO.tup [V.int (i : Nat), v']) (S.free hT).1
    exact ⟨_, x1, S.newF hT _, .tup (.of upd_same) (.cons (.int _) (.cons ((rv.ext e).ext x1) .nil))⟩
def stepD (lo c : Int) (n : Nat) : List D := (List.range n).map fun i => D.int (lo + (i : Nat) * c)
end
section
variable {X : Cx} {E : XK} {tg e : Expr} {wl : WA} {p pos tpos : Pos} {elts : List Expr} {kk : Nat}
/-- enumerate of a tuple, or of a list as it stands -/
def iNum (wl : WA) : WI := fun ρ h R X => wl ρ h (fun ds h1 => match ds with
  | [.tup xs] => R (numD xs) (fun _ => True) h1
  | _ => False) X
theorem ai_num (hm : X.mg "enumerate" = none) (ha : AA X E [e] wl) (hg : Gl X "enumerate" := by rfl) (hs : starEach [e] X.env = [(false, eval e X.env)] := by rfl) : AI X E (.Tuple elts kk tpos) (.Call (.Name "enumerate" p) [e] [] pos) (iNum wl) := by
  refine ⟨PI.imp (pi_et hg hm ha.run hs) fun σ H R ⟨F, ρ, g, S, Rr, q⟩ => ?_, fun ρ h Q Q' X X' hq hx q => ha.mo _ _ _ _ _ _ (fun ds h1 z => ?_) hx q⟩
  · refine ⟨F, ρ, g, S, Rr, ha.mo _ _ _ _ _ _ (fun ds h1 z => ?_) (fun _ _ z => z) q⟩
    intro F1 H1 vs e1 S1 rs
    split at z
    · cases rs with
      | cons r rs =>
        cases rs
        cases r with
        | @tup a xs us hf rs => exact ⟨a, us, rfl, sqt_of S1.fz hf, z F1 H1 _ e1 S1 (ItD.numT hf rs)⟩
    · exact z.elim
  · split at z
    · exact hq _ _ _ z
    · exact z.elim
def iRng3 (wl : WA) : WI := fun ρ h R X => wl ρ h (fun ds h1 => match ds with
  | [.int i, .int j, .int c] => ∃ n, RgC i j c n ∧ R (stepD i c n) (fun _ => True) h1
  | _ => False) X
end
end DL
namespace DL
open PySem PySem.Spec L2 C8
/-! ### x in (a, b): flat data -/
def flatD : D → Bool
  | .non => true
  | .bl _ => true
  | .int _ => true
  | .str _ => true
  | _ => false
def eqFD : D → D → Bool
  | .non, .non => true
  | .bl a, .bl b => a == b
  | .bl a, .int b => (if a then 1 else 0) == b
  | .int a, .bl b => a == (if b then 1 else 0)
  | .int a, .int b => a == b
  | .str a, .str b => a == b
  | _, _ => false
def inD (x : D) (ys : List D) : Bool := ys.any fun y => eqFD y x
def dIn (neg : Bool) (x y : D) (h : AH) (Q : KD) : Prop := ∃ ys, seqOf h y = some ys ∧ flatD x = true ∧ ys.all flatD = true ∧ Q (.bl (if neg then !inD x ys else inD x ys)) h
theorem flatV_of {K : PySem.W.Frag} {F : Hp} {d : D} {v : V} (r : Rep K F d v) (f : flatD d = true) : flatV v = true := by
  cases r <;> first | rfl | cases f
theorem eqV_of {K : PySem.W.Frag} {F : Hp} {d e : D} {v w : V} (r : Rep K F d v) (q : Rep K F e w) (f : flatD d = true) (g : flatD e = true) : eqV v w = eqFD d e := by
  cases r <;> first | (exact absurd f Bool.false_ne_true) | (cases q <;> first | rfl | (exact absurd g Bool.false_ne_true))
theorem inV_of {K : PySem.W.Frag} {F : Hp} {d : D} {v : V} (r : Rep K F d v) (f : flatD d = true) : ∀ {xs : List D} {vs : List V}, Reps K F xs vs → xs.all flatD = true → vs.all flatV = true ∧ inV v vs = inD d xs
  | _, _, .nil, _ => ⟨rfl, rfl⟩
  | _, _, .cons q t, g => by
    rw [List.all_cons, Bool.and_eq_true] at g
    obtain ⟨h1, h2⟩ := inV_of r f t g.2
    refine ⟨by rw [List.all_cons, flatV_of q g.1, h1]; rfl, ?_⟩
    show (List.any _ _) = (List.any _ _)
    rw [List.any_cons, List.any_cons, eqV_of q r g.1 f]
    exact congrArg _ h2
theorem dIn_ok {K : PySem.W.Frag} {neg : Bool} : OpD K (rIn K neg) (dIn neg) where
  to := by
    intro F h H x y vx vy Q S rx ry q
    obtain ⟨ys, e, f, g, q⟩ := q
    obtain ⟨a, vs, rfl, hq, rs⟩ := S.seqOf ry e
    obtain ⟨h1, h2⟩ := inV_of rx f rs g
    exact ⟨a, vs, rfl, hq, flatV_of rx f, h1, by rw [h2]; exact q.at S (.bl _)⟩
  mo := fun hq ⟨ys, e, f, g, q⟩ => ⟨ys, e, f, g, hq _ _ q⟩
section
variable {X : Cx} {E : XK} {k : Nat} {a b e : Expr} {es : List Expr} {wa wb wx : WE} {wl wk : WA} {pos kpos : Pos} {kws : List Keyword} {nm : Option Str}
theorem at_in (ha : AE X E a wa) (hb : AE X E b wb) (hm : behindInMarks .In b = false := by rfl) : AT X E (.Compare a [.In] [b] pos) (wTest (wOp (dIn false) wa wb)) := at_cmp dIn_ok op_in_seq ha hb hm
/-! ### keywords -/
structure AK (X : Cx) (E : XK) (kws : List Keyword) (w : WA) : Prop where
  run : PK X kws (tA X.K E w)
  mo : MoA w
theorem PK.imp {t t' : TA} (p : PK X kws t) (h : ∀ σ H Q, t' σ H Q → t σ H Q) : PK X kws t' := ⟨fun pos pins s σ H Q I q => p.run pos pins s σ H Q I (h _ _ _ q)⟩
theorem ak_nil : AK X E [] wNil := ⟨PK.imp pk_nil fun σ H Q ⟨F, ρ, g, S, R, q⟩ => q F H [] (.refl F) S .nil, fun ρ h Q Q' X X' hq hx q => hq _ _ q⟩
theorem ak_cons (ha : AE X E e wx) (hr : AK X E kws wk) : AK X E (⟨nm, e, kpos⟩ :: kws) (wCons wx wk) := by
  refine ⟨PK.imp (pk_cons ha.run hr.run) fun σ H Q ⟨F, ρ, g, S, R, q⟩ => ?_, fun ρ h Q Q' X X' hq hx q => ha.mo _ _ _ _ _ _ (fun x h1 z => hr.mo _ _ _ _ _ _ (fun xs h2 z => hq _ _ z) hx z) hx q⟩
  refine ⟨F, ρ, g, S, R, ha.mo _ _ _ _ _ _ (fun x h1 z => ?_) (fun _ _ z => z) q⟩
  intro F1 H1 v e1 S1 r
  refine ⟨F1, ρ, h1, S1, R.ext e1, hr.mo _ _ _ _ _ _ (fun xs h2 z => ?_) (fun _ _ z => LX.ext e1 z) z⟩
  intro F2 H2 vs e2 S2 rs
  exact z F2 H2 _ (e1.trans e2) S2 (.cons (r.ext e2) rs)
end
end DL
namespace DL
open PySem PySem.Spec L2 C8 PyProof.Rows
/-! ### the law is called -/
section
variable {P : Program} {w : World} {K : PySem.W.Frag} {mg bm : Str → Option Value} {k : Nat} {fa q : Addr} {fd : FuncData} {x : Str} {S : FSpec} {t : Shared} {us : List Value} {js : List Int}
/-- what is tracked at the start: the script at most -/
structure Beg (K : PySem.W.Frag) (P : Program) (w : World) (H : Hp) (hp : Heap) (q : Addr) (js : List Int) : Prop where
  sq : SqL K H q (js.map V.int)
  ok : HOk P w H hp
  at_ : ∀ b, H b ≠ none → b = q
  out : H q ≠ none → K.lookup q = none
  fz : ∀ b, H b = none ∨ ∃ ob ys, H b = some (.frz ob (.lst ys))
theorem beg_of (KX : K.In t.heap) (hq : t.heap.get? q = some { cls := .type "list", data := .seq us.toArray }) (ia : IntsAre us js) (lj : js.length ≤ sizeLine) : ∃ H, Beg K P w H t.heap q js := by
  have rv := vals_ints ia
  have el := ia.length
  cases kq : K.lookup q with
  | some ob =>
    have e := (KX q ob kq).symm.trans hq
    obtain rfl := Option.some.inj e
    refine ⟨fun _ => none, .inr ⟨_, _, _, kq, rfl, rfl, rfl, ?_, by simpa using rv⟩, fun b u z => ?_, fun b z => absurd rfl z, fun z => absurd rfl z, fun b => .inl rfl⟩
    · rw [List.size_toArray, el]; exact lj
    · exact absurd (show (none : Option HO) = some u from z) (by simp)
  | none =>
    have tr : ∀ b : Addr, (if b = q then some (HO.frz { cls := .type "list", data := .seq us.toArray } (.lst (js.map V.int))) else none : Option HO) ≠ none → b = q := fun b z => by
      by_cases c : b = q
      · exact c
      · exact absurd (if_neg c) z
    refine ⟨fun b => if b = q then some (.frz { cls := .type "list", data := .seq us.toArray } (.lst (js.map V.int))) else none, .inl (.inr ⟨_, if_pos rfl⟩), fun b u z => ?_, tr, fun _ => kq, fun b => ?_⟩
    · have c : b = q := tr b (by intro n; exact absurd (n.symm.trans z) (by simp))
      subst c
      obtain rfl := Option.some.inj ((if_pos rfl).symm.trans z)
      exact ⟨hq, by rw [List.length_map]; exact lj, us, _, rv, hq⟩
    · by_cases c : b = q
      · exact .inr ⟨_, _, if_pos c⟩
      · exact .inl (if_neg c)
end
end DL
namespace Hx
open PySem PySem.Spec PyProof.Rows L2 DL
abbrev Fr := PySem.W.Frag
/-! ### what stands where, by names -/
/-- the object that a slot holds -/
def rf (v : Option (Option Value)) : Addr := match v with
  | some (some (.ref a)) => a
  | _ => 0
def tk (v : Option (Option Value)) : Tok := match v with
  | some (some (.int _ t)) => t
  | some (some (.str _ t)) => t
  | _ => 0
/-- the module's name, a class's name -/
def gl (K : Fr) (x : Str) : Addr := rf (PySem.W.nsIn K mainGlobals x)
def me (K : Fr) (C : Addr) (m : Str) : Addr := rf (PySem.W.findIn K (.ref C) m)
def rh (K : Fr) (p : Addr) (T : String) : Addr := match PySem.W.recIn K p T with
  | some (.ref f :: _) => f
  | _ => 0
def rt (K : Fr) (p : Addr) (T : String) : List Value := match PySem.W.recIn K p T with
  | some (_ :: r) => r
  | _ => []
/-! a function's parts -/
def fd? (K : Fr) (a : Addr) : Option FuncData := match K.lookup a with
  | some ⟨_, _, .func fd, _⟩ => some fd
  | _ => none
def oc (K : Fr) (a : Addr) : Value := match K.lookup a with
  | some o => o.cls
  | none => .none
def od (K : Fr) (a : Addr) : Option Addr := match K.lookup a with
  | some o => o.dict
  | none => none
def sl (K : Fr) (a : Addr) : Array (Option Value) := match K.lookup a with
  | some o => o.slots
  | none => #[]
def fv (p : FuncData → Value) (K : Fr) (a : Addr) : Value := match fd? K a with
  | some fd => p fd
  | none => .none
def kv (K : Fr) (a : Addr) : Value := fv (·.kwdefaults) K a
abbrev FnU := Option (Str × Str × Arguments × FuncBody × Scope × Addr × List (Str × Addr) × Value × Addr)
def fnU (df : Bool) (K : Fr) (a : Addr) : FnU := match fd? K a with
  | some fd => some (fd.name, fd.qualname, fd.params, fd.body, fd.scope, fd.globals, fd.closure, if df then .none else fd.defaults, fd.builtins)
  | none => none
/-- one def: where it stands, its name, qualified name, parameters, body, scope -/
structure FnX where
  at_ : Fr → Addr
  name : Str
  qual : Str
  st : Stmt
  df : Bool
def FnX.val (d : FnX) : FnU := some (d.name, d.qual, defArgs d.st, .stmts (defBody d.st), defScope d.st, mainGlobals, [], .none, builtinsNs)
theorem fn_at {K : Fr} {a : Addr} {x q : Str} {st : Stmt} (e : fnU false K a = some (x, q, defArgs st, .stmts (defBody st), defScope st, mainGlobals, [], .none, builtinsNs)) :
    K.lookup a = some ⟨oc K a, od K a, .func (PySem.W.fnOf x q (defArgs st) (defBody st) (defScope st) .none (kv K a) (fv (·.doc) K a) (fv (·.pyModule) K a) (match fd? K a with | some fd => fd.annotations | none => none) (fv (·.code) K a) (fv (·.closureTuple) K a)), sl K a⟩ := by
  unfold oc od sl kv fv
  cases l : K.lookup a with
  | none => unfold fnU fd? at e; rw [l] at e; cases e
  | some o =>
    obtain ⟨c, d, dt, sls⟩ := o
    cases dt with
    | func fd =>
      have ef : fd? K a = some fd := by unfold fd?; rw [l]
      unfold fnU at e
      rw [ef] at e ⊢
      obtain ⟨n1, n2, n3, n4, n5, n6, n7, n8, n9, n10, n11, n12, n13, n14, n15⟩ := fd
      simp only [Option.some.injEq, Prod.mk.injEq] at e
      obtain ⟨h1, h2, h3, h4, h5, h6, h7, h8, h9⟩ := e
      replace h8 : _ = Value.none := h8
      simp only [Bool.false_eq_true, if_false] at h8
      subst h1 h2 h3 h4 h5 h6 h7 h8 h9
      rfl
    | _ => unfold fnU fd? at e; rw [l] at e; cases e
def an (K : Fr) (a : Addr) : Option Addr := match fd? K a with
  | some fd => fd.annotations
  | none => none
/-! ### the Hook -/
abbrev AlX : Type := Bool × List FnU
def obX (ts : List (List (Fr → Bool))) (fn : List FnX) (K : Fr) : AlX := (ts.all fun l => l.all fun t => t K, fn.map fun d => fnU d.df K (d.at_ K))
def vaX (fn : List FnX) : AlX := (true, fn.map FnX.val)
def SaX (ts : List (List (Fr → Bool))) (fn : List FnX) (K : Fr) : Prop := obX ts fn K = vaX fn
/-- all objects, the module's names first, the newest next -/
def allA (no : List Addr) (g : Addr → Option Obj) : Nat → List Addr
  | 0 => []
  | n + 1 => match g n with
    | some ⟨.none, _, .fields _, _⟩ => allA no g n
    | some _ => n :: allA no g n
    | none => allA no g n
def frX (N : Nat) (no : List Addr) (g : Addr → Option Obj) : Fr := He.frG g (mainGlobals :: allA no g N)
def hookX (N : Nat) (no : List Addr) (ts : List (List (Fr → Bool))) (fn : List FnX) : PySem.W.Hook where
  α := AlX
  obs := fun s => obX ts fn (frX N no s.heap.get?)
  val := fun _ => vaX fn
  says := fun _ h => ∃ K : Fr, K.In h ∧ SaX ts fn K
  of := fun _ _ e => ⟨_, He.frG_in, e⟩
  keeps := fun _ _ _ ⟨K, hK, c⟩ k => ⟨K, PySem.W.Frag.In.keeps hK k, c⟩
def obT (N : Nat) (no : List Addr) (ts : List (List (Fr → Bool))) (fn : List FnX) (s : PySem.W.SharedT) : AlX := obX ts fn (frX N no (HandSHeadRun.getT s))
theorem obT_eq {N : Nat} {no : List Addr} {ts : List (List (Fr → Bool))} {fn : List FnX} (s : PySem.W.SharedT) : obT N no ts fn s = (hookX N no ts fn).obs s.abs := by
  have e : HandSHeadRun.getT s = s.abs.heap.get? := funext (HandSHeadRun.getT_eq s)
  unfold obT
  rw [e] <;> rfl
section
variable {ts : List (List (Fr → Bool))} {fn : List FnX} {K : Fr}
theorem SaX.t (c : SaX ts fn K) (i j : Nat) {l : List (Fr → Bool)} {f : Fr → Bool} (h : ts[i]? = some l) (h2 : l[j]? = some f) : f K = true := by
  have c1 : (ts.all fun l => l.all fun t => t K) = true := congrArg (fun z : AlX => z.1) c
  exact List.all_eq_true.mp (List.all_eq_true.mp c1 l (List.mem_of_getElem? h)) f (List.mem_of_getElem? h2)
theorem SaX.f (c : SaX ts fn K) (i : Nat) {d : FnX} (h : fn[i]? = some d) (hd : d.df = false := by rfl) :
    K.lookup (d.at_ K) = some ⟨oc K (d.at_ K), od K (d.at_ K), .func (PySem.W.fnOf d.name d.qual (defArgs d.st) (defBody d.st) (defScope d.st) .none (kv K (d.at_ K)) (fv (·.doc) K (d.at_ K)) (fv (·.pyModule) K (d.at_ K)) (an K (d.at_ K)) (fv (·.code) K (d.at_ K)) (fv (·.closureTuple) K (d.at_ K))), sl K (d.at_ K)⟩ := by
  have e : fn.map (fun d => fnU d.df K (d.at_ K)) = fn.map FnX.val := congrArg (fun z : AlX => z.2) c
  have e2 : (fn.map fun d => fnU d.df K (d.at_ K))[i]? = (fn.map FnX.val)[i]? := by rw [e]
  rw [List.getElem?_map, List.getElem?_map, h] at e2
  have e3 := Option.some.inj e2
  dsimp only at e3
  rw [hd] at e3
  exact fn_at e3
end
/-! classes of errors -/
def cdOf (K : Fr) (a : Addr) : ClassData := match K.lookup a with
  | some ⟨_, _, .cls cd, _⟩ => cd
  | _ => default
def sk (K : Fr) (a : Addr) (i : Nat) : Option Value := ((sl K a).toList[i]?).getD none
def s4 (l : List (Option Value)) (n : String) : Bool := match l with
  | [_, _, _, _, some (.builtin m), _] => decide (m = n)
  | _ => false
theorem s4_at {l : List (Option Value)} {n : String} (h : s4 l n = true) : ∃ a b c d e, l = [a, b, c, d, some (.builtin n), e] := by
  unfold s4 at h
  split at h
  · obtain rfl := of_decide_eq_true h
    exact ⟨_, _, _, _, _, rfl⟩
  · cases h
def xcOk (K : Fr) (C : Addr) (n : String) : Bool := match K.lookup C with
  | some ⟨.type t, _, .cls cd, ss⟩ => decide (t = "type") && ((match cd.mro with
    | .ref c :: _ => decide (c = C)
    | _ => false) && (cd.hasDict && (!cd.hasDel && s4 ss.toList n)))
  | _ => false
theorem xc_at {K : Fr} {C : Addr} {n : String} (h : xcOk K C n = true) : K.lookup C = some (excClassObj (cdOf K C).name (cdOf K C).qualname C (cdOf K C).ns (cdOf K C).bases (cdOf K C).mro.tail true (cdOf K C).slotNames (cdOf K C).subclasses (cdOf K C).abstract (cdOf K C).collection (od K C) (sk K C 0) (sk K C 1) (sk K C 2) (sk K C 3) (sk K C 5) n) := by
  unfold xcOk at h
  unfold cdOf sk od sl
  cases l : K.lookup C with
  | none => rw [l] at h; cases h
  | some o =>
    rw [l] at h
    obtain ⟨c, d, dt, ss⟩ := o
    cases c with
    | type t =>
      cases dt with
      | cls cd =>
        obtain ⟨n1, n2, n3, n4, n5, n6, n7, n8, n9, n10, n11⟩ := cd
        simp only [Bool.and_eq_true, decide_eq_true_eq] at h
        obtain ⟨rfl, h2, h3, h4, h5⟩ := h
        cases n3 with
        | nil => cases h2
        | cons v r =>
          cases v with
          | ref c =>
            obtain rfl := of_decide_eq_true h2
            have h3 : n6 = true := h3
            have h4 : (!n11) = true := h4
            obtain ⟨ss⟩ := ss
            obtain ⟨a, b, c2, d2, e, h6⟩ := s4_at h5
            have h6 : ss = _ := h6
            subst h6
            cases n11 with
            | true => cases h4
            | false => subst h3; rfl
          | _ => cases h2
      | _ => cases h
    | _ => cases h
/-! code objects with tables -/
def cA (K : Fr) (a : Addr) : Addr := match fv (·.code) K a with
  | .ref c => c
  | _ => 0
theorem fn_c {K : Fr} {a d : Addr} {x q : Str} {st : Stmt} {k p1 p2 p5 : Value} {p3 : Option Addr} {c : Value} {o : Option Addr} {z : Array (Option Value)} (h : K.lookup a = some ⟨c, o, .func (PySem.W.fnOf x q (defArgs st) (defBody st) (defScope st) .none k p1 p2 p3 (fv (·.code) K a) p5), z⟩) (e : fv (·.code) K a = .ref d) :
    K.lookup a = some ⟨c, o, .func (PySem.W.fnOf x q (defArgs st) (defBody st) (defScope st) .none k p1 p2 p3 (.ref d) p5), z⟩ := by
  rw [← e]; exact h
def fl (K : Fr) (a : Addr) : Array Value := match K.lookup a with
  | some ⟨_, _, .fields vs, _⟩ => vs
  | _ => #[]
def flOk (K : Fr) (a : Addr) : Bool := match K.lookup a with
  | some ⟨_, _, .fields _, _⟩ => true
  | _ => false
theorem fl_at {K : Fr} {a : Addr} (h : flOk K a = true) : K.lookup a = some ⟨oc K a, od K a, .fields (fl K a), sl K a⟩ := by
  unfold flOk at h
  unfold oc od fl sl
  cases l : K.lookup a with
  | none => rw [l] at h; cases h
  | some o =>
    rw [l] at h
    obtain ⟨c, d, dt, ss⟩ := o
    cases dt with
    | fields vs => rfl
    | _ => cases h
def r11 (K : Fr) (a : Addr) : Addr := match ((fl K a)[11]? : Option Value) with
  | some (Value.ref t) => t
  | _ => 0
theorem no_at {K : Fr} {a : Addr} (h : (K.lookup a).isNone = true) : K.lookup a = none := Option.isNone_iff_eq_none.mp h
end Hx
/-! exceptions of own classes over any built-in one: made, with stored fields, raised -/
namespace DL
open PySem PySem.Spec L2 C8 PyProof.Rows
/-- what the written part says of an exception class -/
structure XCls (K : PySem.W.Frag) (C : Addr) : Prop where
  ex : ∃ (B newId initId : String) (tl bm bs sub : List Value) (nm q : Str) (N : Addr) (sn : List Str) (ab : Bool) (col : Option Bool) (dd : Option Addr) (k0 k1 k2 k3 k5 : Option Value),
    ExcBaseFacts B newId initId tl ∧ K.lookup C = some (excClassObj nm q C N bs bm true sn sub ab col dd k0 k1 k2 k3 k5 newId) ∧ PySem.W.excTail tl bm = true ∧ (∀ self, refuseLoop self "__setattr__" tl = pure ()) ∧ tl.contains (.type "object") = true
  sa : PySem.W.findIn K (.ref C) "__setattr__" = some (some (.builtin "object.__setattr__"))
  sub : PySem.W.subIn K (.ref C) (.type "BaseException") = some true
  ty : PySem.W.typeIn K (.ref C) = some (.type "type")
  kp : PySem.W.keepIn K (.ref C) = true
/-- its class data -/
theorem XCls.cd {K : PySem.W.Frag} {C : Addr} (T : XCls K C) : ∃ c, PySem.W.clsIn K C = some c ∧ c.hasDict = true ∧ c.mro.isEmpty = false ∧ c.mro.contains (.type "object") = true ∧ ∀ self, refuseLoop self "__setattr__" c.mro = pure () := by
  obtain ⟨B, ni, ii, tl, bm, bs, sb, nm, q, N, sn, ab, col, dd, k0, k1, k2, k3, k5, F, hl, ht, hr, ho⟩ := T.ex
  have t2 : PySem.W.excTail tl (.ref C :: bm) = true := ht
  exact ⟨_, by unfold PySem.W.clsIn; rw [hl] <;> rfl, rfl, rfl, (PySem.W.excTail_contains "object" _ t2).trans ho, fun self => PySem.W.excTail_pass self (hr self) _ t2⟩
section
open Builtin Builtin.ObjectAttr PySem.W PySem.Calls
variable {prog : Program} {w : World} {A : Around} {R : Result → Shared → Prop} {hp : Heap} {g : Array GenState} {d : Drawn} {t : Nat} {os : OsState} {K : PySem.W.Frag} {name : Str} {tk : Tok} {v : Value} {x C : Addr} {fv : Array Value}
/-- the walk of object.__setattr__ to the own dict -/
theorem xset_walk {od : Option Obj} {ox : Obj} (X : K.In hp) (T : XCls K C) (I : PySem.W.InstAt hp x ox C od) (ha : PySem.W.findIn K (.ref C) name = some none)
    (hq : wpAny (model prog w) A.in1 (storeInOwnDict (.ref x) (.ref C) (.str name tk) name v false) (fun fin s' => match fin with
      | Fin.done f => R (Except.ok f) s'
      | Fin.again c' => c'.quiet = true ∧ codeAny (model prog w) A c' R s') (fun e s' => R (.error e) s') ⟨hp, g, d, t, os⟩) :
    codeAny (model prog w) A (.call (.builtin "object.__setattr__") ⟨[.ref x, .str name tk, v], []⟩) R ⟨hp, g, d, t, os⟩ := by
  obtain ⟨cd, hcd, hh, he, hob, hr⟩ := T.cd
  have SF := F.store_object
  have isObj : PySem.W.Looks (model prog w) hp (isInstance (.ref x) (.type "object")) true := I.type.andThen (PySem.W.looks_mroIn X (by unfold PySem.W.mroIn; rw [hcd, Option.bind_some, if_neg (by rw [he]; decide), hob]))
  refine codeAny_call_builtin SF.slot.plain SF.entry (@PySem.W.check_slot (model prog w) _ _ ⟨hp, g, d, t, os⟩ "object.__setattr__" "object" "__setattr__" (.ref x) [.str name tk, v] [] _ SF.kind SF.split isObj (SF.args (.ref x) (.str name tk) v) ?_)
  have Lm : PySem.W.Looks (model prog w) hp (mroOf (.ref C)) cd.mro := (PySem.W.looks_clsIn X hcd).andThen .now
  have Ln : PySem.W.Looks (model prog w) hp (storeTaker? none) none := .now
  rw [PySem.W.osa_eq, refuse_eq]
  refine wpAny_bind (wpAny_bind (I.type.at (wpAny_bind (Lm.at ?_))))
  rw [hr (.ref x)]
  exact wpAny_pure (wpAny_bind (I.type.at (wpAny_bind ((PySem.W.looks_findIn X ha).at (wpAny_bind (Ln.at hq))))))
/-- the first field -/
theorem xset_new (X : K.In hp) (T : XCls K C) (hx : hp.get? x = some { cls := .ref C, data := .fields fv }) (ha : PySem.W.findIn K (.ref C) name = some none)
    (hq : ∀ h' tk' dx, (∀ b o, b ≠ x → hp.get? b = some o → h'.get? b = some o) → hp.objs.size ≤ dx → dx ≠ x → h'.get? x = some { cls := .ref C, dict := some dx, data := .fields fv } →
      h'.Ns1 dx (fun y => if y = name then some v else none) → R (.ok (.ret .none)) ⟨h', g, d, tk', os⟩) :
    codeAny (model prog w) A (.call (.builtin "object.__setattr__") ⟨[.ref x, .str name tk, v], []⟩) R ⟨hp, g, d, t, os⟩ := by
  refine xset_walk X T (ox := { cls := .ref C, data := .fields fv }) (od := none) ⟨hx, rfl, rfl, trivial⟩ ha ?_
  obtain ⟨cd, hcd, hh, _⟩ := T.cd
  have far : x ≠ hp.objs.size := Nat.ne_of_lt (Heap.lt_size hx)
  have Lc : PySem.W.Looks (model prog w) hp (classData C) cd := PySem.W.looks_clsIn X hcd
  obtain ⟨y1, y2, y3, y4, y5, y6, y7, y8, y9, y10, y11⟩ := cd
  dsimp only at hh
  subst hh
  unfold storeInOwnDict ownDictForStores
  repeat (first | with_reducible refine PySem.HandSPX.store_in_new ?_ ?_ | with_reducible refine wpAny_loadPart_at hx ?_ | with_reducible refine Lc.at ?_ | wp_step)
  · exact ⟨_, #[], _, (Heap.get?_update_ne _ _ _ _ far.symm).trans (Heap.get?_push_at rfl rfl), rfl, fun e he => absurd he (by simp), fun _ => rfl⟩
  · intro h2 tk2 hn2 hs2
    have hx2 : (hp.push { cls := .type "dict", data := .dict #[] }).get? x = some { cls := .ref C, data := .fields fv } := Heap.get?_push_of_some _ hx
    refine hq h2 tk2 hp.objs.size (fun b o hb ho => ?_) (Nat.le_refl _) far.symm ?_ hn2
    · exact (hs2.2 b (Nat.ne_of_lt (Heap.lt_size ho))).trans ((Heap.get?_update_ne _ _ _ _ hb).trans (Heap.get?_push_of_some _ ho))
    · exact (hs2.2 x far).trans (Heap.get?_update_self _ hx2 rfl)
/-- a further field -/
theorem xset_old {dx : Addr} {m0 : Str → Option Value} {nl : List Str} (X : K.In hp) (T : XCls K C) (hx : hp.get? x = some { cls := .ref C, dict := some dx, data := .fields fv }) (hns : hp.Ns1 dx m0) (hw : Within m0 nl) (hz : nl.length ≤ 1000) (ha : PySem.W.findIn K (.ref C) name = some none)
    (hq : ∀ h' tk', (∀ b o, b ≠ dx → hp.get? b = some o → h'.get? b = some o) → h'.Ns1 dx (fun y => if y = name then some v else m0 y) → R (.ok (.ret .none)) ⟨h', g, d, tk', os⟩) :
    codeAny (model prog w) A (.call (.builtin "object.__setattr__") ⟨[.ref x, .str name tk, v], []⟩) R ⟨hp, g, d, t, os⟩ := by
  obtain ⟨oD, eD, pD, hoD, hdD, _⟩ := hns.count hw
  refine xset_walk X T (ox := { cls := .ref C, dict := some dx, data := .fields fv }) (od := some oD) ⟨hx, rfl, rfl, hoD⟩ ha ?_
  obtain ⟨cd, hcd, hh, _⟩ := T.cd
  have Lc : PySem.W.Looks (model prog w) hp (classData C) cd := PySem.W.looks_clsIn X hcd
  obtain ⟨y1, y2, y3, y4, y5, y6, y7, y8, y9, y10, y11⟩ := cd
  dsimp only at hh
  subst hh
  unfold storeInOwnDict ownDictForStores
  repeat (first | with_reducible refine PySem.OEX.store_in_old hns hw hz ?_ | with_reducible refine wpAny_loadPart_at hx ?_ | with_reducible refine Lc.at ?_ | wp_step)
  intro h2 tk2 hn2 hs2
  exact hq h2 tk2 (fun b o hb ho => (hs2.2 b hb).trans ho) hn2
end
section
variable {X : Cx} {pins : List (Addr × Obj)} {σ : L2.St} {H : Hp} {s : Shared} {a C dx : Addr} {f : Str} {y : V} {u : Value} {fs : List (Str × V)} {Q : Unit → Shared → Prop} {E : Value → Shared → Prop} {A : Around}
/-- self.f = y, the first one -/
theorem xst_new (T : XCls X.K C) (I : Inv X pins σ H s) (e : H a = some (exo a C none)) (hno : PySem.W.findIn X.K (.ref C) f = some none) (ry : RelV y u)
    (h : ∀ dx s', H dx = none → dx ≠ a → Inv X pins σ (upd (upd H dx (exd dx [(f, y)])) a (exo a C (some dx))) s' → Q () s') : wpAny (model X.prog X.w) A (setAttr (.ref a) f u) Q E s := by
  obtain ⟨t1, ho⟩ := exo_at I.hok e
  obtain ⟨hp, g, d, t, os⟩ := s
  refine PySem.W.set_plain I.kIn (ox := { cls := .ref C, dict := none, data := .fields #[.ref t1, .none, .none, .none, .bool false, .none] }) (od := none) ⟨ho, rfl, rfl, trivial⟩ T.sa (xset_new I.kIn T ho hno fun h2 tk2 dx kp dn dne hx hn => ?_)
  have none_dx : H dx = none := I.hok.fresh dn
  have old_ne : ∀ {b : Addr} {o : Obj}, hp.get? b = some o → b ≠ dx := fun {b o} q => Nat.ne_of_lt (Nat.lt_of_lt_of_le (Heap.lt_size q) dn)
  have ne_a : ∀ {b : Addr}, H b = none → b ≠ a := fun {b} n z => by rw [z, e] at n; cases n
  have away : ∀ {b : Addr} {o : HO}, H b = some o → (exo a C none ≠ o) → upd (upd H dx (exd dx [(f, y)])) a (exo a C (some dx)) b = H b := fun {b o} q n => by
    rw [upd_ne (L2.at_ne e q n), upd_ne (ne_of_none q none_dx)]
  have UN : Un X.fs [] H (upd (upd H dx (exd dx [(f, y)])) a (exo a C (some dx))) hp h2 :=
    ⟨fun b o q n _ _ => kp b o (ne_a n) q, fun b o q n _ _ => ⟨o.slots, kp b o (ne_a n) q⟩, fun b o q n _ => by rw [upd_ne (ne_a n), upd_ne (old_ne q)]; exact n,
      fun b o q _ => (Classical.em (b = a)).elim (fun hb => ⟨_, hb.symm ▸ hx⟩) fun hb => ⟨o, kp b o hb q⟩, fun b xs q => (away q exo_tup).trans q, fun b o v q => (away q exo_frz).trans q, fun b ps q => ⟨#[], by rw [away q exo_tbl, q]; simp⟩⟩
  refine h dx _ none_dx dne (I.un (t' := tk2) UN fun b o q => ?_)
  by_cases hb : b = a
  · subst hb
    obtain rfl := Option.some.inj (upd_same.symm.trans q)
    exact exo_ok hx
  · rw [upd_ne hb] at q
    by_cases hd : b = dx
    · subst hd
      obtain rfl := Option.some.inj (upd_same.symm.trans q)
      exact exd_ok hn (relO_put (fs := []) ry fun g => True.intro)
    · rw [upd_ne hd] at q
      exact (I.hok b o q).stay (fun c v hc z => kp c v (hc.elim (fun r => by rw [r]; exact hb) (fun r => L2.at_ne e r exo_own)) z) (fun c hc => (away hc exo_own).trans hc) fun c xs hc => (away hc exo_tup).trans hc
/-- self.f = y, a further one -/
theorem xst_old (T : XCls X.K C) (I : Inv X pins σ H s) (e : H a = some (exo a C (some dx))) (ed : H dx = some (exd dx fs)) (hl : fs.length ≤ 900) (hno : PySem.W.findIn X.K (.ref C) f = some none) (ry : RelV y u)
    (h : ∀ s', Inv X pins σ (upd H dx (exd dx ((f, y) :: fs))) s' → Q () s') : wpAny (model X.prog X.w) A (setAttr (.ref a) f u) Q E s := by
  obtain ⟨t1, ho⟩ := exo_at I.hok e
  obtain ⟨mA, hns, rel⟩ := exd_at I.hok ed
  have wi := within_of rel
  obtain ⟨hp, g, d, t, os⟩ := s
  obtain ⟨oD, e1, e2, hoD, e3, e4⟩ := hns.count wi
  refine PySem.W.set_plain I.kIn (ox := { cls := .ref C, dict := some dx, data := .fields #[.ref t1, .none, .none, .none, .bool false, .none] }) (od := some oD) ⟨ho, rfl, rfl, hoD⟩ T.sa (xset_old I.kIn T ho hns wi (by rw [List.length_map]; omega) hno fun h2 tk2 kp hn => ?_)
  obtain ⟨o2, w1, w2, w3, w4⟩ := id hn
  exact h _ (I.write (t' := tk2) (x := dx) (e := dx) (o := exd dx ((f, y) :: fs)) (by rw [ed]; trivial) (.inl rfl) kp ⟨o2, w3⟩ (exd_ok hn (relO_put ry rel)))
end
/-- self.f = e, self an exception under way -/
def tXst (K : PySem.W.Frag) (f : Str) (to te : TE) : TS := fun D σ H => te σ H fun y H1 => to σ H1 fun x H2 => ∃ a C : Addr, x = .ref a ∧ XCls K C ∧ PySem.W.findIn K (.ref C) f = some none ∧
  ((H2 a = some (exo a C none) ∧ ∀ dx, H2 dx = none → dx ≠ a → D.nx σ (upd (upd H2 dx (exd dx [(f, y)])) a (exo a C (some dx)))) ∨
    ∃ (dx : Addr) (fs : List (Str × V)), H2 a = some (exo a C (some dx)) ∧ H2 dx = some (exd dx fs) ∧ fs.length ≤ 900 ∧ D.nx σ (upd H2 dx (exd dx ((f, y) :: fs))))
theorem ps_xst {X : Cx} {o e : Expr} {to te : TE} {f : Str} {p' pos : Pos} (ho : PE X o to) (he : PE X e te) (hs : swapsWith e (some (.Attribute o f p')) pos.line X.env = pure false := by rfl) : PS X (.Assign [.Attribute o f p'] e pos) (tXst X.K f to te) := by
  refine ⟨fun pins s σ H D I h => plainObj_wpAny_Assign_Attribute (thn (he.run pins s σ H _ I h) fun v s1 ⟨y, H1, I1, r1, q1⟩ => thn (ho.run pins s1 σ H1 _ I1 q1) fun u s2 ⟨x, H2, I2, r2, a, C, ex, T, hno, q⟩ => ?_) hs⟩
  subst ex
  obtain rfl : u = Value.ref a := r2
  rcases q with ⟨ea, q⟩ | ⟨dx, fs, ea, ed, hl, q⟩
  · exact xst_new T I2 ea hno r1 fun dx s' n ne J => ⟨σ, _, J, q dx n ne⟩
  · exact xst_old T I2 ea ed hl hno r1 fun s' J => ⟨σ, _, J, q⟩
end DL
/-! exceptions of own classes: inits that store their parameters; raise -/
namespace DL
open PySem PySem.Spec L2 C8 PyProof.Rows
/-- an init that stores its parameters -/
def spX (K : PySem.W.Frag) (ns : List Str) : Sp := fun vs H Q _ => ∃ (a C : Addr) (ys : List V), vs = .ref a :: ys ∧ ys.length = ns.length ∧ XCls K C ∧ (∀ f ∈ ns, PySem.W.findIn K (.ref C) f = some none) ∧ H a = some (exo a C none) ∧
  ∀ dx, H dx = none → dx ≠ a → Q .non (upd (upd H dx (exd dx (ns.zip ys).reverse)) a (exo a C (some dx)))
theorem spX_len {K : PySem.W.Frag} {ns : List Str} : ∀ vs H Q E, spX K ns vs H Q E → vs.length = ("self" :: ns : List Str).length := by
  rintro vs H Q E ⟨a, C, ys, rfl, l, _⟩
  simp [l]
section
variable {P : Program} {w : World} {K : PySem.W.Frag} {mg : Str → Option Value} {base : Heap} {st : Stmt} {f : Addr} {fd : FuncData} {qual p1 p2 : Str} {k : Nat} {q1 q2 q3 q4 q5 q6 q7 q8 : Pos}
theorem xinit1 (F : L2.Fun K "__init__" qual st f fd) (S : FnScope ["self", p1] ["self", p1] (defScope st)) (hv : Vis (defScope st) "self") (hv1 : Vis (defScope st) p1) (hb : defBody st = [.Assign [.Attribute (.Name "self" q1) p1 q2] (.Name p1 q3) q4])
    (hd : (p1 == ("__debug__" : Str)) = false := by decide) (hc : (p1 == ("__classdict__" : Str)) = false := by decide) : FnOk P w K mg base L2.CX0 (k + 1) f fd ["self", p1] (spX K [p1]) := by
  refine F.ok S spX_len fun cdv A outer s H vs Q E hr hs => ?_
  rw [hb]
  obtain ⟨a, C, ys, rfl, l, T, hf, ea, h⟩ := hs
  match ys, l with
  | [y], _ =>
    refine ⟨_, pss_one (ps_xst (pe_var (i := 0) rfl hv) (pe_var (i := 1) rfl hv1 hd hc)), ?_⟩
    exact ⟨y, rfl, .ref a, rfl, a, C, rfl, T, hf _ (by simp), .inl ⟨ea, fun dx n ne => h dx n ne⟩⟩
end
section
variable {X : Cx} {k : Nat} {f C : Addr} {fd : FuncData} {ps : List Str} {sp : Sp} {x : Str} {p pos : Pos} {e : Expr} {es : List Expr} {ta : TA} {bmB : List Value} {B newId initId : String}
/-- X(e, ..), its init walked -/
theorem pmk_x (T : XCls X.K C) (iC : PySem.W.findIn X.K (.ref C) "__init__" = some (some (.ref f))) (tI : PySem.W.typeIn X.K (.ref f) = some (.type "function")) (G : FnOk X.prog X.w X.K X.mg X.base L2.CX0 k f fd ps sp) (hr : Room (k + 1) X.A) (hb : Binds X.K fd ps []) (hg : Gl X x) (hm : X.mg x = some (.ref C)) (ha : PA X (e :: es) ta)
    (hdb : (x == ("__debug__" : Str)) = false := by decide) (he : starEach (e :: es) X.env = (false, eval e X.env) :: starEach es X.env := by rfl) (hpl : (backTo pos (starEach es X.env)).any (·.1) = false := by rfl) :
    PMk X (.Call (.Name x p) (e :: es) [] pos) (tMkO C sp [] ta) := by
  intro pins s σ H Q I h
  obtain ⟨B, ni, ii, tl, bm, bs, sb, nm, q, N, sn, ab, col, dd, k0, k1, k2, k3, k5, FB, hl, ht, _⟩ := T.ex
  refine wpAny_Call_Name_kw (ld_glob I hg hm ?_ hdb)
  refine PySem.W.callWith_K (h₀ := X.base) I.ok.mod.kin T.kp (thn (ha.run pos pins s σ H _ I h) fun us s1 ⟨vs, H1, I1, r1, hz, q1⟩ => ⟨I1.kIn, ?_⟩) he hpl
  show wpAny _ _ (call (.ref C) us) _ _ _
  obtain ⟨hp, g, dr, tk, os⟩ := s1
  have le1 : hp.objs.size ≤ hp.objs.size + 1 := Nat.le_succ _
  have hn : H1 (hp.objs.size + 1) = none := I1.hok.fresh le1
  have hq := q1 (hp.objs.size + 1) hn
  rw [List.append_nil] at hq
  have up2 : ∀ b o, hp.get? b = some o → ((hp.push (PySem.W.kdv_tup us)).push (PySem.HandSPX.excO C hp.objs.size)).get? b = some o := fun b o z => Heap.get?_push_of_some _ (Heap.get?_push_of_some _ z)
  have there : ((hp.push (PySem.W.kdv_tup us)).push (PySem.HandSPX.excO C hp.objs.size)).get? (hp.objs.size + 1) = some (PySem.HandSPX.excO C hp.objs.size) := by heap_get
  have I2 : Inv X pins σ (upd H1 (hp.objs.size + 1) (exo (hp.objs.size + 1) C none)) ⟨(hp.push (PySem.W.kdv_tup us)).push (PySem.HandSPX.excO C hp.objs.size), g, dr, tk, os⟩ := I1.laid (t' := tk) up2 le1 (exo_ok there)
  have r2 : Vals (V.ref (hp.objs.size + 1) :: vs) (Value.ref (hp.objs.size + 1) :: us) := .cons rfl r1
  have len2 : (Value.ref (hp.objs.size + 1) :: us).length = ps.length := r2.length.symm.trans (G.len _ _ _ _ hq)
  have small : us.length ≤ sizeLine := by rw [← Paired.length r1, sizeLine_eq]; omega
  have bd := hb _ (Value.ref (hp.objs.size + 1) :: us) I2.kIn (by rw [List.append_nil]; exact len2)
  rw [List.append_nil] at bd
  refine wpAny_call (PySem.HandSPX.call_own FB (fun Y => PySem.W.excTail_contains Y bm ht) (I1.kIn _ _ hl) (PySem.W.looks_findIn I1.kIn iC) (fun self => PySem.W.bind_fn I1.kIn self tI) small
    (codeAny_mono (G.run _ X.stack _ _ ⟨Value.ref (hp.objs.size + 1) :: us, []⟩ (Value.ref (hp.objs.size + 1) :: us) _ _ (fun _ _ _ => False) (hr.make C us []) (I2.env0.make C us []) bd r2 hq) fun r s' z => ?_))
  cases r with
  | error er => exact False.elim z
  | ok fl =>
    cases fl with
    | ret u =>
      obtain ⟨v, H2, os2, bare2, un2, hok2, rv, ev, d, fs, ea, ed, hd1, q2⟩ := z
      subst ev
      obtain ⟨h2, g2, d2, t2, os'⟩ := s'
      exact ⟨rv, mk_end (raises_own T.sub T.ty) I1 le1 up2 un2 hok2 os2 bare2 ea ed hd1 q2⟩
    | next => exact False.elim z
    | brk => exact False.elim z
    | cont => exact False.elim z
end
end DL
/-! raise, over data -/
namespace DL
open PySem PySem.Spec L2 C8 PyProof.Rows
def wRaise (C : Addr) (ns : List Str) (wl : WA) : WS := fun D ρ h => wl ρ h (fun ds h1 => ds.length = ns.length ∧ D.ex (.own C (ns.zip ds).reverse) h1) D.ex
section
variable (P : Program) (w : World) (K : PySem.W.Frag) (mg : Str → Option Value) (base : Heap)
/-- the exception class at C bears the name x; its init stores its parameters -/
structure XMk (x : Str) (C : Addr) (k : Nat) (ns : List Str) : Prop where
  ex : ∃ (f : Addr) (fd : FuncData) (ps : List Str), PySem.W.findIn K (.ref C) "__init__" = some (some (.ref f)) ∧ PySem.W.typeIn K (.ref f) = some (.type "function") ∧ FnOk P w K mg base L2.CX0 k f fd ps (spX K ns) ∧ Binds K fd ps []
  cls : XCls K C
  at_ : mg x = some (.ref C)
  no : ∀ f ∈ ns, PySem.W.findIn K (.ref C) f = some none
  sm : ns.length ≤ 1000
end
theorem Sim.growH {K : PySem.W.Frag} {F : Hp} {h : AH} {H : Hp} {p : Addr} (S : Sim K F h H) (e : H p = none) (u : HO) : Sim K F h (upd H p u) := by
  obtain ⟨e1, e2⟩ := S.free e
  refine ⟨fun a o q => ?_, fun a o q => ?_⟩
  · rw [upd_ne (fun z => by rw [z, e1] at q; cases q)]; exact S.fz _ _ q
  · rw [upd_ne (fun z => by rw [z, e2] at q; cases q)]; exact S.ob _ _ q
theorem RepF.app {K : PySem.W.Frag} {F : Hp} : ∀ {xs ys : List (Str × D)} {vs ws : List (Str × V)}, RepF K F xs vs → RepF K F ys ws → RepF K F (xs ++ ys) (vs ++ ws)
  | _, _, _, _, .nil, s => s
  | _, _, _, _, .cons h t, s => .cons h (RepF.app t s)
theorem RepF.rev {K : PySem.W.Frag} {F : Hp} : ∀ {xs : List (Str × D)} {vs : List (Str × V)}, RepF K F xs vs → RepF K F xs.reverse vs.reverse
  | _, _, .nil => .nil
  | _, _, .cons (k := k) h t => by rw [List.reverse_cons, List.reverse_cons]; exact RepF.app (RepF.rev t) (.cons h .nil)
theorem RepF.zip {K : PySem.W.Frag} {F : Hp} : ∀ (ns : List Str) {xs : List D} {vs : List V}, Reps K F xs vs → RepF K F (ns.zip xs) (ns.zip vs)
  | [], _, _, _ => .nil
  | _ :: _, _, _, .nil => .nil
  | n :: ns, _, _, .cons h t => .cons h (RepF.zip ns t)
section
variable {X : Cx} {E : XK} {gz : Bool} {k j : Nat} {C : Addr} {x : Str} {ns : List Str} {e : Expr} {es : List Expr} {wl : WA} {p pos pos' : Pos}
theorem as_raise (c : Cg gz X E k) (M : XMk X.prog X.w X.K X.mg X.base x C j ns) (hj : j + 1 ≤ k) (hl : AA X E (e :: es) wl) (tk : Takes X (fun cls d _ H => E cls d H) := by exact takes_of rfl rfl rfl rfl) (hg : Gl X x := by rfl)
    (hdb : (x == ("__debug__" : Str)) = false := by decide) (he : starEach (e :: es) X.env = (false, eval e X.env) :: starEach es X.env := by rfl) (hpl : (backTo pos (starEach es X.env)).any (·.1) = false := by rfl) :
    AS X E (.Raise (some (.Call (.Name x p) (e :: es) [] pos)) none pos') (wRaise C ns wl) := by
  obtain ⟨f, fd, ps, iC, tI, G, B⟩ := M.ex
  refine ⟨PS.imp (ps_raise c.calm tk (pmk_x M.cls iC tI G (c.room.mono hj) B hg M.at_ hl.run hdb he hpl)) fun D σ H hq => ?_, fun D D' ρ h hD q => hl.mo _ _ _ _ _ _ (fun ds h1 z => ⟨z.1, hD.ex _ _ z.2⟩) hD.ex q⟩
  obtain ⟨F, ρ, h, S, R, q⟩ := hq
  refine ⟨F, ρ, h, S, R, hl.mo _ _ _ _ _ _ (fun ds h1 z => ?_) (fun _ _ z => z) q⟩
  obtain ⟨l, z⟩ := z
  intro F1 H1 vs e1 S1 r
  have lv : vs.length = ns.length := by rw [← r.length]; exact l
  refine ⟨by rw [lv]; exact M.sm, fun a na => ?_⟩
  rw [List.append_nil]
  refine ⟨a, C, vs, rfl, lv, M.cls, M.no, upd_same, fun dx nd ne => ⟨rfl, dx, _, upd_same, by rw [upd_ne ne, upd_same], by rw [upd_ne ne] at nd; exact nd, ?_⟩⟩
  have nd1 : H1 dx = none := by rw [upd_ne ne] at nd; exact nd
  have eH : upd (L2.del (upd (upd (upd H1 a (exo a C none)) dx (exd dx (ns.zip vs).reverse)) a (exo a C (some dx))) a) dx (.xd (ns.zip vs).reverse) = upd H1 dx (.xd (ns.zip vs).reverse) := by
    funext b
    by_cases h1 : b = dx
    · subst h1; rw [upd_same, upd_same]
    · rw [upd_ne h1, upd_ne h1]
      by_cases h2 : b = a
      · subst h2; rw [L2.del_same, na]
      · rw [L2.del_ne h2, upd_ne h2, upd_ne h1, upd_ne h2]
  rw [eH]
  exact z F1 _ _ _ e1 (S1.growH nd1 _) ⟨rfl, .inr ⟨dx, _, rfl, upd_same, RepF.rev (RepF.zip ns r)⟩⟩
end
theorem u_raise {C : Addr} {ns : List Str} {wl : WA} {D : EndsD} {ρ : EnvD} {h : AH} : wRaise C ns wl D ρ h = wl ρ h (fun ds h1 => ds.length = ns.length ∧ D.ex (.own C (ns.zip ds).reverse) h1) D.ex := rfl
end DL
/-! try .. except (A, B, C) as e: y = e, the exception kept behind it -/
namespace DL
open PySem PySem.Spec L2 C8 PyProof.Rows
/-- the class test of an except clause -/
def XTest (X : Cx) (t : Expr) (ok : Value → Option Bool) : Prop :=
  ∀ (a : Addr) (pn : List (Addr × Obj)) (σ : L2.St) (H : Hp) (s : Shared) (cls : Value) (b : Bool) (E : Value → Shared → Prop) (Q : Bool → Shared → Prop), Inv (X.suite a pn) [] σ H s → PySem.W.Looks (model X.prog X.w) s.heap (typeOf (.ref a)) cls → ok cls = some b →
    (∀ h', (∀ q o, s.heap.get? q = some o → h'.get? q = some o) → Q b { s with heap := h' }) → wpAny (model X.prog X.w) (X.A.mark (some (.ref a))) (eval t X.env) (fun c s1 => wpAny (model X.prog X.w) (X.A.mark (some (.ref a))) (excMatches (.ref a) c) Q E s1) E s
theorem xt_name {X : Cx} {a1 a2 : Addr} {pn : List (Addr × Obj)} {σ : L2.St} {H : Hp} {s : Shared} {x : Str} {c : Value} {np : Pos} {Q : Value → Shared → Prop} {E : Value → Shared → Prop} (hc : Names X x c) (I : Inv (X.suite a1 pn) [] σ H s) (q : Q c s) :
    wpAny (model X.prog X.w) (X.A.mark (some (.ref a1))) (eval (.Name x np) X.env) Q E s := by
  obtain ⟨hg, hd, hm | ⟨hm, hv, hn⟩⟩ := hc
  · exact ld_glob (X := X.suite a1 pn) I hg hm q hd
  · exact ld_blt (X := X.suite a1 pn) I hg hm hv q hn hd
theorem xt_three {X : Cx} {x1 x2 x3 : Str} {c1 c2 c3 : Value} {p1 p2 p3 tpos : Pos} {kk : Nat} (n1 : Names X x1 c1) (n2 : Names X x2 c2) (n3 : Names X x3 c3) :
    XTest X (.Tuple [.Name x1 p1, .Name x2 p2, .Name x3 p3] kk tpos) (fun cls => PySem.W.exmAny X.K cls [c1, c2, c3]) := fun a pn σ H s cls b E Q I LT e q => by
  refine wpAny_Tuple (wpAny_items_cons (xt_name (a2 := a) n1 I (wpAny_items_cons (xt_name (a2 := a) n2 I (wpAny_items_cons (xt_name (a2 := a) n3 I (wpAny_items_nil ⟨by size_fits, ?_⟩)))))))
  have kp : ∀ y o, s.heap.get? y = some o → (s.heap.push { cls := .type "tuple", data := .seq [c1, c2, c3].toArray }).get? y = some o := fun _ _ z => Heap.get?_push_of_some _ z
  exact (PySem.W.exm_tup3 (I.kIn.keeps kp) (LT.keeps kp) (Heap.get?_push_size s.heap rfl) e).here (q _ kp)
theorem flying_keep {base h h' : Heap} {l : List Env} {e : Addr} {Z : Obj → Prop} (x : HandSPX.FlyingZ base l e Z h) (k : ∀ b o, h.get? b = some o → h'.get? b = some o) : HandSPX.FlyingZ base l e Z h' := by
  obtain ⟨f1, f2, f3, oe, vs, T, oT, ts, he, hz, hd, h1, hn, hne, hT, hdT, h3⟩ := x
  exact ⟨fun b o q => k b o (f1 b o q), f2, f3.of_keeps fun b o q _ => ⟨o, k b o q, rfl⟩, oe, vs, T, oT, ts, k _ _ he, hz, hd, h1, hn, hne, k _ _ hT, hdT, h3⟩
/-- an object of the heap that is new since the entry is known from now on -/
theorem inv_track {X : Cx} {pins : List (Addr × Obj)} {σ : L2.St} {H : Hp} {s : Shared} {a : Addr} {o : HO} (I : Inv X pins σ H s) (n : H a = none) (n0 : X.s_0.heap.get? a = none) (nL : a ≠ X.env.locals) (nC : ∀ x c, X.env.cells.lookup x = some c → c ≠ a) (nP : ∀ p ∈ X.pn ++ pins, p.1 ≠ a)
    (new : ObjOk X.prog X.w (upd H a o) s.heap a o) : Inv X pins σ (upd H a o) s := by
  have away : ∀ {b : Addr} {u : HO}, H b = some u → upd H a o b = H b := fun {b u} q => upd_ne (ne_of_none q n)
  refine ⟨I.ok, I.os, I.bare, ⟨I.base.keep, I.base.slot, fun b u e q hx => ?_, I.base.there, fun b xs q => ?_, fun b u xs q => ?_, fun b ps q => ?_⟩, I.loc, I.cell, ?_, fun x c e => ?_, fun p hp => ?_, fun b u e => ?_, I.len⟩
  · rw [upd_ne (fun z => by rw [z, n0] at e; cases e)]
    exact I.base.free b u e q hx
  · have z := I.base.tups b xs q
    rw [away z]; exact z
  · have z := I.base.frzs b u xs q
    rw [away z]; exact z
  · obtain ⟨m, z⟩ := I.base.tbls b ps q
    exact ⟨m, by rw [away z]; exact z⟩
  · rw [upd_ne (Ne.symm nL)]; exact I.free
  · rw [upd_ne (nC x c e)]; exact I.freeC x c e
  · obtain ⟨h1, h2, h3, h4, h5⟩ := I.pin p hp
    exact ⟨h1, by rw [upd_ne (nP p hp)]; exact h2, h3, h4, h5⟩
  · by_cases hb : b = a
    · subst hb
      obtain rfl := Option.some.inj (upd_same.symm.trans e)
      exact new
    · rw [upd_ne hb] at e
      exact (I.hok b u e).stay (fun c v _ z => z) (fun c z => (away z).trans z) fun c xs z => (away z).trans z
theorem exV_ok {P : Program} {w : World} {H : Hp} {h : Heap} {a C : Addr} {d : Option Addr} {oe : Obj} {vs : Array Value} (e : h.get? a = some oe) (z : Zc (.ref C) d oe) (hd : oe.data = .fields vs) : ObjOk P w H h a (exV a C d) :=
  ⟨⟨oe, vs, e, z, hd⟩, ⟨oe, e⟩, fun _ _ ⟨o, v, q, r⟩ k => ⟨o, v, k o q, r⟩⟩
/-- what the clause wishes: slot i is the clause's name, slot j keeps the exception -/
def wKeep (ok : Value → Option Bool) (i j : Nat) (Wout : WX) (D : Ends) : WX := fun cls d σ H =>
  ∃ b, ok cls = some b ∧ (b = true → ∃ C, cls = .ref C ∧ ∀ a, H a = none → D.nx (((σ.set i (some (.ref a))).set j (some (.ref a))).set i none) (upd H a (exV a C d))) ∧ (b = false → Wout cls d σ H)
section
variable {X : Cx} {n : Str} {i j : Nat} {body suite : List Stmt} {b₀ : Stmt} {te : Expr} {pos pos' : Pos} {tb : WX → TS} {Wout : WX} {ok : Value → Option Bool}
theorem ps_try_keep (hex : X.ex = []) (hs : X.stack = X.env :: X.outer) (hf : X.env.frame = some X.env.locals) (hN : X.N.Nodup) (hi : X.N[i]? = some n) (hln : X.env.kindOf n = some .local) (ht : XTest X te ok) (tk : Takes X Wout)
    (hb : ∀ (W : WX) (pn : List (Addr × Obj)) (xe : Value → Shared → Prop), Takes (X.tr pn xe) W → PassesOwn (model X.prog X.w) X.A X.env xe → PSs (X.tr pn xe) body (tb W))
    (hsu : ∀ (a : Addr) (pn : List (Addr × Obj)), PSs (X.suite a pn) (b₀ :: suite) (fun D σ H => ∃ v, σ[i]? = some (some v) ∧ D.nx (σ.set j (some v)) H)) (hij : i < X.N.length) :
    PS X (.Try body [.ExceptHandler (some te) (some n) (b₀ :: suite) pos'] [] [] pos) (fun D σ H => tb (wKeep ok i j Wout D) D σ H) := by
  refine ⟨fun pins s σ H D I h => ?_⟩
  have okX := I.ok
  have hfr : X.A.frames = some (X.env :: X.outer) := by rw [okX.frames, hs]
  have hloc : Loc X.env.scope n := .inl hln
  refine wpAny_Try_except (wpAny_mono ((hb (wKeep ok i j Wout D) (X.pn ++ pins) (fun e s₁ => wpAny (model X.prog X.w) X.A (noteFrame e X.env) (fun _ s₂ => wpAny (model X.prog X.w) X.A (setFlight e none) (fun _ s₃ =>
    wpAny (model X.prog X.w) X.A (handleBy e X.env [.ExceptHandler (some te) (some n) (b₀ :: suite) pos']) (SP X pins D) X.xe s₃) X.xe s₂) X.xe s₁) (fun u s' xx => ?_) PassesOwn.looking).run [] s σ H D (I.toTry _) h) (fun f s1 hsp => ?_) (fun e s1 he => he))
  · obtain ⟨a, B, sI, pins', σ', H', cls, d, rfl, J', nb, up, sky, na, os, ag, b, hb1, hyes, hno⟩ := xx
    have J : Inv X pins σ' H' sI := J'.ofTry okX
    have sky2 : Sky B (X.env :: X.outer) a (Zc cls d) X.env.locals s'.heap := by rw [← hs]; exact sky
    show wpAny (model X.prog X.w) X.A (noteFrame (.ref a) X.env) _ _ _
    refine Sky.land Zc.steady hfr hf sky2 fun h3 fl3 up3 => ?_
    have J3 : Inv X pins σ' H' { s' with heap := h3 } := J.landed nb fl3.1 (up.trans up3) os ag
    obtain ⟨oe3, vs3, he3, hz3, hd3⟩ := fl3.there
    have outFr : ∀ {h : Heap} {o : Obj} {vs : Array Value}, h.FunFrames B (X.env :: X.outer) → h.get? a = some o → o.data = .fields vs → a ∉ frs (X.env :: X.outer) := fun {h o vs} ff e dd hm => by
      obtain ⟨_, o2, e2, nf2⟩ := ff.mem hm
      rw [e] at e2
      obtain rfl := Option.some.inj e2
      exact nf2 _ dd
    have nfr := outFr fl3.2.2.1 he3 hd3
    have nL : a ≠ X.env.locals := fun z => nfr (List.mem_filterMap.mpr ⟨X.env, List.mem_cons_self, by rw [hf, z]⟩)
    have nF : a ∉ X.fs := fun hm => by
      obtain ⟨e, he, q⟩ := List.mem_filterMap.mp hm
      exact nfr (List.mem_filterMap.mpr ⟨e, List.mem_cons_of_mem _ he, q⟩)
    have nI : sI.heap.get? a = none := by
      cases q : sI.heap.get? a with
      | none => rfl
      | some o =>
        have z := nb a o q (by rw [hs]; exact nfr)
        rw [fl3.2.1] at z; cases z
    have S3 := J3.suite he3 hd3 na nL nF
    have LT : PySem.W.Looks (model X.prog X.w) h3 (typeOf (.ref a)) cls := fun A Q E s k q => wpAny_typeOf_ref (k _ _ he3) (by rw [hz3.1]; exact q)
    refine wpAny_handleBy_cons (codeAny_handlers_test (ht a _ σ' H' _ cls b _ _ S3 LT hb1 fun h4 kp => ?_)) (by intro q; cases q)
    have fl4 := flying_keep fl3 kp
    have up4 := (up.trans up3).trans (Heap.UpToSlots.of_keeps kp)
    cases b with
    | true =>
      obtain ⟨C, hC, go1⟩ := hyes rfl
      subst hC
      refine codeAny_handlers_suite_as (HandSPX.lands_againZ fl4 fun h5 fl5 up5 => ?_)
      have J5 : Inv X pins σ' H' { s' with heap := h5 } := J.landed nb fl5.1 (up4.trans up5) os ag
      obtain ⟨oe5, vs5, he5, hz5, hd5⟩ := fl5.there
      have S5 := J5.suite he5 hd5 na nL nF
      refine store_ok (X := X.suite a ((a, oe5) :: (X.pn ++ pins))) (v := .ref a) S5 hN hi hloc rfl (fun s6 S6 => ?_) (.inr hln)
      refine wpAny_mono ((hsu a ((a, oe5) :: (X.pn ++ pins))).run [] s6 _ H' { nx := fun σ7 H7 => σ7 = (σ'.set i (some (.ref a))).set j (some (.ref a)) ∧ H7 = H', rt := fun _ _ => False } S6 ⟨.ref a, ?_, rfl, rfl⟩) (fun f s7 hsp => ?_) (fun _ _ z => False.elim z)
      · exact List.getElem?_set_self (by rw [J.len]; exact hij)
      · cases f with
        | next =>
          obtain ⟨σ7, H7, S7, rfl, rfl⟩ := hsp
          obtain ⟨hpin, _⟩ := S7.pin (a, oe5) (List.mem_append_left _ List.mem_cons_self)
          have J7 : Inv X pins _ H7 s7 := S7.unsuite okX
          have n0 : X.s_0.heap.get? a = none := by
            cases q : X.s_0.heap.get? a with
            | none => rfl
            | some o =>
              obtain ⟨o2, z⟩ := J.base.there a o q (by rw [hex]; simp)
              rw [nI] at z; cases z
          have J8 := inv_track (o := exV a C d) J7 na n0 nL (fun x c e z => by
              obtain ⟨v, o, ho, hdc⟩ := J7.cell x c e
              rw [z, hpin] at ho
              obtain rfl := Option.some.inj ho
              rw [hd5] at hdc; cases hdc) (fun p hp z => by
              have y := (J.pin p hp).1
              rw [z, nI] at y; cases y) (exV_ok hpin hz5 hd5)
          exact gone_ok J8 hN hi hln fun s8 J9 => ⟨_, _, J9, go1 a na⟩
        | brk => obtain ⟨_, _, _, z⟩ := hsp; exact z.elim
        | cont => obtain ⟨_, _, _, z⟩ := hsp; exact z.elim
        | ret u => obtain ⟨_, _, _, _, _, z⟩ := hsp; exact z.elim
    | false =>
      show wpAny _ X.A (handleBy (.ref a) X.env []) _ _ _
      refine wpAny_handleBy_nil ?_
      obtain ⟨k1, k2, k3, oe, vs, T, oT, ts, he, hz, hd, h1, hr⟩ := id fl4
      unfold PySem.passOn
      refine wpAny_bind (wpAny_field he hd h1 ?_)
      rw [if_neg (show ¬ ((Value.ref T == Value.none) = true) from by simp)]
      have out : wpAny (model X.prog X.w) X.A (setFlight (.ref a) X.env.frame) (fun _ s5 => wpAny (model X.prog X.w) X.A (throw (.ref a) : Sem Flow) (SP X pins D) X.xe s5) X.xe { s' with heap := h4 } := by
        rw [hf]
        exact HandSPX.setFlight_upZ fl4 fun h5 hh5 up5 => wpAny_throw (tk _ _ ⟨a, B, sI, pins, σ', H', cls, d, rfl, J, nb, up4.trans up5, .inr (.inr (by rw [hs]; exact hh5)), na, os, ag, hno rfl⟩)
      first
        | exact wpAny_bind (wpAny_pure (wpAny_bind out))
        | exact wpAny_bind out
  · cases f with
    | next => obtain ⟨σ2, H2, K2, q⟩ := hsp; exact wpAny_execs_nil ⟨σ2, H2, K2.ofTry okX, q⟩
    | brk => obtain ⟨σ2, H2, K2, q⟩ := hsp; exact ⟨σ2, H2, K2.ofTry okX, q⟩
    | cont => obtain ⟨σ2, H2, K2, q⟩ := hsp; exact ⟨σ2, H2, K2.ofTry okX, q⟩
    | ret u => obtain ⟨v, σ2, H2, K2, r, q⟩ := hsp; exact ⟨v, σ2, H2, K2.ofTry okX, r, q⟩
end
end DL
namespace DL
open PySem PySem.Spec L2 C8 PyProof.Rows
/-- what is done with an exception of the classes errs: slot j of an empty frame keeps it -/
def exH (errs : List Addr) (n j : Nat) (D : EndsD) : KX := fun x h => match x with
  | .own C fs => C ∈ errs ∧ D.nx ((List.replicate n none).set j (some (.xob C fs))) h
  | .blt _ => False
def wTry (errs : List Addr) (n j : Nat) (wb : WS) : WS := fun D ρ h => wb { D with ex := exH errs n j D } ρ h
/-- an exception's dict is no object that may change -/
theorem xd_free {K : PySem.W.Frag} {F : Hp} {h : AH} {H : Hp} {dd : Addr} {vs : List (Str × V)} (S : Sim K F h H) (e : H dd = some (.xd vs)) : h dd = none := by
  cases q : h dd with
  | none => rfl
  | some o =>
    obtain ⟨_, u, hu, r⟩ := S.ob _ _ q
    rw [e] at hu
    obtain rfl := Option.some.inj hu
    cases o with
    | lst _ => obtain ⟨_, z, _⟩ := r; cases z
    | dK _ => obtain ⟨_, z, _⟩ := r; cases z
    | dT _ => obtain ⟨_, z, _⟩ := r; cases z
    | ins _ _ => obtain ⟨_, _, z, _⟩ := r; cases z
    | lck _ => obtain ⟨_, _, z, _⟩ := r; cases z
    | lckK _ _ => obtain ⟨_, z, _⟩ := r; cases z
    | tab _ => obtain ⟨_, z, _⟩ := r; cases z
/-- an object that stands in the heap and doesn't change is known from now on -/
theorem Sim.know {K : PySem.W.Frag} {F : Hp} {h : AH} {H : Hp} {p : Addr} {u : HO} (S : Sim K F h H) (e : H p = some u) (n : h p = none) : Ext F (upd F p u) ∧ Sim K (upd F p u) h H := by
  have ext : Ext F (upd F p u) := fun a o q => by
    by_cases c : a = p
    · subst c
      have z := S.fz _ _ q
      rw [e] at z
      rw [upd_same]; exact z
    · rw [upd_ne c]; exact q
  refine ⟨ext, fun a o q => ?_, fun a o q => ?_⟩
  · by_cases c : a = p
    · subst c
      rw [upd_same] at q
      rw [← q]; exact e
    · rw [upd_ne c] at q; exact S.fz _ _ q
  · have c : a ≠ p := fun z => by rw [z, n] at q; cases q
    obtain ⟨f, w, hw, r⟩ := S.ob _ _ q
    exact ⟨by rw [upd_ne c]; exact f, w, hw, r.ext ext⟩
/-- the kept exception, over data -/
theorem keep_sim {K : PySem.W.Frag} {F : Hp} {h : AH} {H : Hp} {C a : Addr} {d : Option Addr} {fs : List (Str × D)} {cls : Value} (S : Sim K F h H) (r : RepX K F H (.own C fs) cls d) (na : H a = none) :
    ∃ F2, Ext F F2 ∧ Sim K F2 h (upd H a (exV a C d)) ∧ Rep K F2 (.xob C fs) (.ref a) := by
  obtain ⟨_, ⟨rfl, rfl⟩ | ⟨dd, vs, rfl, hd, rf⟩⟩ := r
  · exact ⟨_, ext_upd (S.free na).1, S.newF na _, .xob0 upd_same⟩
  · obtain ⟨e1, S1⟩ := S.know hd (xd_free S hd)
    have e2 := ext_upd (o := exV a C (some dd)) (S1.free na).1
    exact ⟨_, e1.trans e2, S1.newF na _, .xob upd_same (e2 _ _ upd_same) ((rf.ext e1).ext e2)⟩
section
variable {X : Cx} {E : XK} {gz : Bool} {k i j : Nat} {n y x1 x2 x3 : Str} {c1 c2 c3 : Value} {body : List Stmt} {pos pos' p1 p2 p3 q1 q2 q3 q4 : Pos} {kk : Nat} {wb : WS} {errs : List Addr}
theorem takes_len {W : WX} {X : Cx} (t : Takes X W) : Takes X (fun cls d _ H => ∀ σ : L2.St, σ.length = X.N.length → W cls d σ H) := fun u s' ⟨a, B, sI, pins, σ, H, cls, d, e, I, nb, up, sky, na, os, ag, w⟩ =>
  t u s' ⟨a, B, sI, pins, σ, H, cls, d, e, I, nb, up, sky, na, os, ag, w σ I.len⟩
/-- in the body of a try -/
theorem cg_try (c : Cg gz X E k) {pn : List (Addr × Obj)} {xe : Value → Shared → Prop} {W : WX} (t : Takes (X.tr pn xe) W) (po : PassesOwn (model X.prog X.w) X.A X.env xe) : Cg gz (X.tr pn xe) (fun cls d H => ∀ σ : L2.St, σ.length = X.N.length → W cls d σ H) k :=
  ⟨c.room, c.gd, c.calm, c.nd, passes_call (takes_len t) (fun _ _ _ _ z => z), po⟩
theorem as_try (i j : Nat) (c : Cg gz X E k) (he : ∀ C ∈ errs, PySem.W.exmAny X.K (.ref C) [c1, c2, c3] = some true) (m1 : X.mg x1 = some c1) (m2 : X.mg x2 = some c2) (m3 : X.mg x3 = some c3)
    (hb : ∀ (pn : List (Addr × Obj)) (xe : Value → Shared → Prop) (E' : XK), Takes (X.tr pn xe) (fun cls d _ H => E' cls d H) → Cg gz (X.tr pn xe) E' k → ASs (X.tr pn xe) E' body wb)
    (hij : i ≠ j) (g1 : Gl X x1 := by rfl) (g2 : Gl X x2 := by rfl) (g3 : Gl X x3 := by rfl) (d1 : (x1 == ("__debug__" : Str)) = false := by decide) (d2 : (x2 == ("__debug__" : Str)) = false := by decide) (d3 : (x3 == ("__debug__" : Str)) = false := by decide)
    (tk : Takes X (fun cls d _ H => E cls d H) := by exact takes_of rfl rfl rfl rfl)
    (hi : X.N[i]? = some n := by rfl) (hj : X.N[j]? = some y := by rfl) (hs : X.stack = X.env :: X.outer := by rfl) (hf : X.env.frame = some X.env.locals := by rfl) (hex : X.ex = [] := by rfl) (hln : X.env.kindOf n = some .local := by rfl)
    (hy : Loc X.env.scope y := by first | exact Or.inl rfl | exact Or.inr rfl) (hfy : X.fn y = true ∨ X.env.scope.names.lookup y = some .local := by first | exact .inl rfl | exact .inr rfl) (hv : Vis X.env.scope n := by exact Or.inl rfl)
    (hsw : swapsWith (.Name n p2) (some (.Name y p1)) p3.line X.env = pure false := by rfl) (hd : (n == ("__debug__" : Str)) = false := by decide) (hcd : (n == ("__classdict__" : Str)) = false := by decide) :
    AS X E (.Try body [.ExceptHandler (some (.Tuple [.Name x1 q1, .Name x2 q2, .Name x3 q3] kk q4)) (some n) [.Assign [.Name y p1] (.Name n p2) p3] pos'] [] [] pos) (wTry errs X.N.length j wb) := by
  have li : i < X.N.length := (List.getElem?_eq_some_iff.mp hi).1
  have lj : j < X.N.length := (List.getElem?_eq_some_iff.mp hj).1
  have hmo : MoS wb := by
    have tk2 : Takes (X.tr X.pn X.xe) (fun cls d _ H => E cls d H) := tk
    refine (hb X.pn X.xe E tk2 ?_).mo
    exact ⟨c.room, c.gd, c.calm, c.nd, passes_call (X := X.tr X.pn X.xe) tk2 (fun _ _ _ _ z => z), c.po⟩
  refine ⟨PS.imp (ps_try_keep (j := j) (ok := fun cls => PySem.W.exmAny X.K cls [c1, c2, c3]) (Wout := fun cls d _ H => E cls d H) (tb := fun W => tS X.K (fun cls d H => ∀ σ : L2.St, σ.length = X.N.length → W cls d σ H) wb)
    hex hs hf c.nd hi hln (xt_three ⟨g1, d1, .inl m1⟩ ⟨g2, d2, .inl m2⟩ ⟨g3, d3, .inl m3⟩) tk (fun W pn xe t po => (hb pn xe _ (takes_len t) (cg_try c t po)).run) (fun a pn => pss_one (ps_set (X := X.suite a pn) c.nd hj hy (pe_var (X := X.suite a pn) hi hv hd hcd) hsw hfy)) li) fun D σ H hq => ?_, fun D D' ρ h hD q => hmo { D with ex := exH errs X.N.length j D } { D' with ex := exH errs X.N.length j D' } ρ h ⟨hD.nx, hD.rt, hD.bk, hD.ct, fun x h1 z => ?_⟩ q⟩
  · obtain ⟨F, ρ, h, S, R, q⟩ := hq
    refine ⟨F, ρ, h, S, R, hmo { LD X.K F D E with ex := exH errs X.N.length j (LD X.K F D E) } _ ρ h ⟨fun _ _ z => z, fun _ _ z => z, fun _ _ z => z, fun _ _ z => z, fun x h1 z => ?_⟩ q⟩
    intro F1 H1 cls d e1 S1 rx
    cases x with
    | blt b => exact z.elim
    | own C fs =>
      obtain ⟨hC, z⟩ := z
      intro σ1 l1
      have hcls : cls = .ref C := rx.1
      refine ⟨true, by rw [hcls]; exact he C hC, fun _ => ⟨C, hcls, fun a na => ?_⟩, fun z => Bool.noConfusion z⟩
      obtain ⟨F2, e2, S2, rep⟩ := keep_sim S1 rx na
      refine z F2 _ _ (e1.trans e2) S2 ⟨by simp [l1], fun m d hm => ?_⟩
      by_cases c : m = j
      · subst c
        rw [List.getElem?_set_self (by simpa using lj)] at hm
        obtain rfl := Option.some.inj (Option.some.inj hm)
        refine ⟨.ref a, ?_, rep⟩
        rw [List.getElem?_set_ne hij, List.getElem?_set_self (by simpa [l1] using lj)]
      · rw [List.getElem?_set_ne (Ne.symm c), List.getElem?_replicate] at hm
        split at hm <;> cases hm
  · cases x with
    | blt b => exact z
    | own C fs => exact ⟨z.1, hD.nx _ _ z.2⟩
end
theorem u_try {errs : List Addr} {n j : Nat} {wb : WS} {D : EndsD} {ρ : EnvD} {h : AH} : wTry errs n j wb D ρ h = wb { D with ex := exH errs n j D } ρ h := rfl
end DL
/-! x(lambda: ..), over data -/
namespace DL
open PySem PySem.Spec L2 C8 PyProof.Rows LamX
section
variable {X : Cx} {pins : List (Addr × Obj)} {σ : L2.St} {H : Hp} {s : Shared}
/-- the lambda is made; its code object is known -/
theorem lam_make3 {F : Hp} {h : AH} {c P : Addr} {params : Arguments} {body : Expr} {scope : Scope} {pos : Pos} {E : Value → Shared → Prop} {Q : Value → Shared → Prop} (I : Inv X pins σ H s) (TB : TabB X.base X.mg c P) (hcode : X.env.code = .ref c) (S : Sim X.K F h H)
    (hP : h P = some (.tab (X.env.qual ++ "<lambda>"))) (hdef : defaultsOf params X.env = ([], [])) (hfree : ∀ y ∈ scope.names, y.2 = .free → ∃ c, X.env.cells.lookup y.1 = some c)
    (go : ∀ (f c' : Addr) (pm ctv : Value) (H1 F1 : Hp) (s' : Shared), Inv X pins σ H1 s' → Ext F F1 → Sim X.K F1 h H1 → s'.heap.get? f = some (PySem.W.kla_obj "<lambda>" (X.env.qual ++ "<lambda>") params body scope (cloFrom X.env.cells scope.names []) pm c' ctv) →
      H1 f = none → f ∉ frs X.stack → F1 c' = some (CodeO c' (X.env.qual ++ "<lambda>")) → Q (.ref f) s') :
    wpAny (model X.prog X.w) X.A (eval (.Lambda params body scope pos) X.env) Q E s := by
  obtain ⟨FP, u, HP, ps, rfl, tr, am⟩ := S.ob _ _ hP
  refine PySem.W.kla_eval hdef ?_
  have builtP : s.heap.BuiltinsAt X.mg P := TB.bm.keeps I.bk
  have atP : s.heap.get? P = some { cls := .none, data := .fields ps } := I.hok P _ HP
  have outside : ∀ f, s.heap.objs.size ≤ f → f ∉ frs X.stack := fun f hf z => by
    rcases List.mem_cons.mp (I.stkSub _ z) with e | e
    · have l1 := I.lt
      rw [← e] at l1
      exact Nat.lt_irrefl _ (Nat.lt_of_lt_of_le l1 hf)
    · exact I.nofs hf e
  cases hc : codeAmong pos ps.toList with
  | some cv =>
    obtain ⟨c', rfl, hF⟩ := am pos cv hc
    refine PySem.W.kla_makeFunctionHit (mg := X.mg) (c := c) (P := P) (ps := ps) (closure_ok hfree) I.ok.glob (I.mod.glob.keeps I.bk) hcode (TB.code.keeps I.bk) atP tr hc builtP fun ctv h2 tk2 kx hsz => ?_
    exact go h2.objs.size c' ((X.mg "__name__").getD .none) ctv H F _ (I.kept fun b o e => Heap.get?_push_of_some _ (kx b o e)) (Ext.refl F) S (Heap.get?_push_size _ rfl) (I.hok.fresh hsz) (outside _ hsz) hF
  | none =>
    refine PySem.W.kla_makeFunction (mg := X.mg) (c := c) (P := P) (ps := ps) (closure_ok hfree) I.ok.glob (I.mod.glob.keeps I.bk) hcode (TB.code.keeps I.bk) atP tr hc TB.gP builtP fun c' ctv h2 tk2 kx hge hlt rec2 tb2 => ?_
    obtain ⟨c2, oc, vs, t, e2, hoc, hd, hv⟩ := rec2
    obtain rfl := Value.ref.inj e2
    have sz : s.heap.objs.size ≤ h2.objs.size := Nat.le_trans hge (Nat.le_of_lt hlt)
    have nC : H c' = none := I.hok.fresh hge
    have J := inv_table (t' := tk2) (more := #[rawInt pos.line, rawInt pos.col, .ref c']) (h' := h2.push (PySem.W.kla_obj "<lambda>" (X.env.qual ++ "<lambda>") params body scope (cloFrom X.env.cells scope.names []) ((X.mg "__name__").getD .none) c' ctv)) I HP
      (fun b o hb e => Heap.get?_push_of_some _ (kx b o hb e)) (Heap.get?_push_of_some _ tb2) hge ⟨oc, vs, t, Heap.get?_push_of_some _ hoc, hd, hv⟩
    have nF : F c' = none := (S.free nC).1
    have ex1 : Ext F (upd F c' (CodeO c' (X.env.qual ++ "<lambda>"))) := ext_upd nF
    have tl : (ps ++ #[rawInt pos.line, rawInt pos.col, .ref c']).toList = ps.toList ++ [rawInt pos.line, rawInt pos.col, .ref c'] := by simp
    have nPc : P ≠ c' := fun z => by rw [z, nC] at HP; cases HP
    have S1 : Sim X.K (upd F c' (CodeO c' (X.env.qual ++ "<lambda>"))) h (upd (upd H P (.tbl (ps ++ #[rawInt pos.line, rawInt pos.col, .ref c']))) c' (CodeO c' (X.env.qual ++ "<lambda>"))) := by
      refine ⟨fun a o q => ?_, fun a o q => ?_⟩
      · by_cases h1 : a = c'
        · subst h1; rw [upd_same] at q ⊢; exact q
        · rw [upd_ne h1] at q
          have h3 : a ≠ P := fun z => by rw [z, FP] at q; cases q
          rw [upd_ne h1, upd_ne h3]; exact S.fz _ _ q
      · obtain ⟨fa, w, hw, r⟩ := S.ob _ _ q
        have h1 : a ≠ c' := fun z => by rw [z, nC] at hw; cases hw
        refine ⟨by rw [upd_ne h1]; exact fa, ?_⟩
        by_cases h3 : a = P
        · subst h3
          obtain rfl := Option.some.inj (hP.symm.trans q)
          refine ⟨_, by rw [upd_ne h1, upd_same], _, rfl, by rw [tl]; exact PySem.TriplesOk_snoc _ _ _ _ tr, fun p2 cv2 hc2 => ?_⟩
          rw [tl] at hc2
          rcases among_app _ tr hc2 with z | z
          · obtain ⟨c0, e1, e2⟩ := am p2 cv2 z
            exact ⟨c0, e1, ex1 _ _ e2⟩
          · exact ⟨c', z, upd_same⟩
        · exact ⟨w, by rw [upd_ne h1, upd_ne h3]; exact hw, r.ext ex1⟩
    have n1 : h2.objs.size ≠ c' := Nat.ne_of_gt hlt
    have n2 : h2.objs.size ≠ P := Nat.ne_of_gt (Nat.lt_of_lt_of_le (Heap.lt_size atP) sz)
    exact go h2.objs.size c' ((X.mg "__name__").getD .none) ctv _ _ _ J ex1 S1 (Heap.get?_push_size _ rfl) (by rw [upd_ne n1, upd_ne n2]; exact I.hok.fresh sz) (outside _ sz) upd_same
end
/-! ### thunks -/
abbrev Thk := AH → KD → KX → Prop
/-- monotone -/
def MoK (tl : Thk) : Prop := ∀ h Q Q' X X', (∀ d h, Q d h → Q' d h) → (∀ x h, X x h → X' x h) → tl h Q X → tl h Q' X'
abbrev HSpec := Thk → AH → KD → KX → Prop
def MoH (HS : HSpec) : Prop := ∀ t, MoK t → ∀ h Q Q' X X', (∀ d h, Q d h → Q' d h) → (∀ x h, X x h → X' x h) → HS t h Q X → HS t h Q' X'
/-- a call of the thunk d that slot i holds -/
def wAct (i : Nat) (d : D) (tl : Thk) : WE := fun ρ h Q X => ρ[i]? = some (some d) ∧ tl h Q X
/-- in the body of a def that gets a thunk: it may be called in a try -/
def ActOk (X : Cx) (a : Str) (d : D) (tl : Thk) : Prop := ∀ (pn : List (Addr × Obj)) (xe : Value → Shared → Prop) (E' : XK) (p1 p2 : Pos), Takes (X.tr pn xe) (fun cls d _ H => E' cls d H) → AE (X.tr pn xe) E' (.Call (.Name a p1) [] [] p2) (wAct 0 d tl)
section
variable (P : Program) (w : World) (K : PySem.W.Frag) (mg : Str → Option Value) (base : Heap)
/-- a def of the module that gets a thunk -/
structure HCal (gz : Bool) (x : Str) (k : Nat) (HS : HSpec) : Prop where
  ex : ∃ (g : Addr) (fd : FuncData) (st : Stmt) (N : List Str) (a : Str) (W : D → Thk → WS), mg x = some (.ref g) ∧ L2.Fun K x x st g fd ∧ FnScope N [a] (defScope st) ∧ N[0]? = some a ∧ Vis (defScope st) a ∧ (a == ("__debug__" : Str)) = false ∧ (a == ("__classdict__" : Str)) = false ∧
    (∀ (s : Shared) (u : Value), BindsTo s fd ⟨[u], []⟩ [(a, u)]) ∧
    (∀ (d : D) (tl : Thk), MoK tl → ∀ (cdv : Value) (A : Around) (outer : List PySem.Env) (s : Shared) (H : Hp) (E : XK), Cg gz (cxOf (L2.CX P w) P w K mg base N x (defScope st) g cdv A outer s H E) E k →
      ActOk (cxOf (L2.CX P w) P w K mg base N x (defScope st) g cdv A outer s H E) a d tl → ASs (cxOf (L2.CX P w) P w K mg base N x (defScope st) g cdv A outer s H E) E (defBody st) (W d tl)) ∧
    ∀ d tl, MoK tl → ∀ h Q X, HS tl h Q X → W d tl (endsD Q X) (startD N.length [d]) h
  mo : MoH HS
end
/-- x(lambda: e): the table at P, the reading of e -/
def wHeard (HS : HSpec) (P : Addr) (q : Str) (we : WE) : WE := fun ρ h Q X => h P = some (.tab q) ∧ HS (we ρ) h Q X
section
variable {X : Cx} {E : XK} {gz gy : Bool} {k j : Nat} {x : Str} {HS : HSpec} {c P : Addr} {params : Arguments} {body : Expr} {scope : Scope} {p lpos pos : Pos} {we : WE}
/-- in the body of the lambda -/
theorem cg_lam (c : Cg gz X E k) {A : Around} {outer : List PySem.Env} {s : Shared} {H : Hp} {E' : XK} {f c' : Addr} {m : Nat} (hr : Room m (A.deeper (lamEnv X scope s.heap.objs.size f c'))) : Cg false (lamCx X A outer s H E' scope f c') E' m :=
  ⟨hr, fun z => Bool.noConfusion z, rfl, c.nd, passes_call (X := lamCx X A outer s H E' scope f c') (takes_of rfl rfl rfl rfl) (fun _ _ _ _ z => z), passes_of rfl⟩
theorem ae_heard (c : Cg gz X E k) (M : HCal X.prog X.w X.K X.mg X.base gy x j HS) (hz : gy = true → gz = true) {cc : Addr} (TB : TabB X.base X.mg cc P) (hcode : X.env.code = .ref cc) (hj : j + 1 ≤ k)
    (he : ∀ (A : Around) (outer : List PySem.Env) (s : Shared) (H : Hp) (E' : XK) (f c' : Addr), Cg false (lamCx X A outer s H E' scope f c') E' (k - 2) → AE (lamCx X A outer s H E' scope f c') E' body we)
    (L : LamS X.env.scope scope) (hk2 : 2 ≤ k) (hdef : defaultsOf params X.env = ([], []) := by rfl)
    (hbind : ∀ (q : Str) (cl : List (Str × Addr)) (pm cv ctv : Value), bindArgs (PySem.W.kla_fn "<lambda>" q params body scope cl pm cv ctv) ⟨[], []⟩ = pure [] := by intro _ _ _ _ _; rfl) (hg : Gl X x := by rfl)
    (hdb : (x == ("__debug__" : Str)) = false := by decide) :
    AE X E (.Call (.Name x p) [.Lambda params body scope lpos] [] pos) (wHeard HS P (X.env.qual ++ "<lambda>") we) := by
  obtain ⟨g, fd, st, N, a, W, hm, Fn, sc, hN0, hva, ha1, ha2, hb, bodyH, pureH⟩ := M.ex
  obtain ⟨oc, od, kV, doc, pm0, an, cdv, ct, osl, rfl, lk, hcd⟩ := Fn.ex
  have room1 : ∀ (e : PySem.Env), Room (k - 1) (X.A.deeper e) := fun e => (c.room.mono (j := k - 1 + 1) (by omega)).deeper e
  have room2 : ∀ (e e2 : PySem.Env), Room (k - 2) ((X.A.deeper e).deeper e2) := fun e e2 => ((room1 e).mono (j := k - 2 + 1) (by omega)).deeper e2
  have moE : MoE we := (he (X.A.deeper X.env) X.outer X.s_0 X.H_0 E 0 0 (cg_lam c (room2 _ _))).mo
  have moW : ∀ ρ, MoK (we ρ) := fun ρ h Q Q' X X' hQ hX z => moE _ _ _ _ _ _ hQ hX z
  refine ⟨⟨fun pins s σ H Q I hq => ?_⟩, fun ρ h0 Q Q' X X' hq hx q => ⟨q.1, M.mo _ (moW ρ) _ _ _ _ _ hq hx q.2⟩⟩
  obtain ⟨F, ρ, h, S, R, hP, q⟩ := hq
  refine wpAny_Call_Name_kw (ld_glob I hg hm ?_ hdb)
  refine PySem.W.callWith_K (h₀ := X.base) I.ok.mod.kin Fn.kp ?_ (by rfl) (by rfl)
  show wpAny _ _ (spliced ((false, eval (.Lambda params body scope lpos) X.env) :: backTo pos (starEach [] X.env))) _ _ s
  refine Calls.spliced_cons (lam_make3 I TB hcode S hP hdef (L.has I.ok) fun f c' pm ctv H1 F1 s1 I1 e1 S1 hf hfn hfr hco => Calls.spliced_nil ⟨I1.kIn, ?_⟩)
  have R1 := R.ext e1
  have rc : codeAny (model X.prog X.w) X.A (.call (.ref g) ⟨[.ref f], []⟩) (CR (L2.CX X.prog X.w) X.stack X.prog X.w H1 s1 Q E) s1 := by
    have inK : X.K.In s1.heap := I1.kIn
    refine codeAny_call_function c.room.depth (inK _ _ lk) rfl sc.co sc.gen rfl (PySem.W.codeRec_of inK hcd) (hb _ _ _ _ _ _ ?_)
    have kinds : ∀ y ∈ [(a, Value.ref f)], (defScope st).names.lookup y.1 = some .local ∨ ((defScope st).names.lookup y.1 = some .cell ∧ ((cellsFrom (s1.heap.objs.size + 1) (defScope st).names []).lookup y.1).isSome = true) := fun ⟨n, v⟩ hy => by
      have e : (n, v) = (a, Value.ref f) := by simpa using hy
      obtain ⟨rfl, rfl⟩ := Prod.mk.inj e
      cases sc.par n (by simp) with
      | inl q => exact .inl q
      | inr q => exact .inr ⟨q, PySem.W.cellsFrom_some _ _ _ (.inl q)⟩
    refine wpAny_newFunctionEnv_cells sc.kind kinds fun env hE s2 ic => ?_
    subst hE
    refine ⟨I1.nolimit.keeps ic.toInCall.keep, codeAny_func ?_⟩
    have I2 := inv_start (CX := L2.CX X.prog X.w) (P := X.prog) (w := X.w) (mg := X.mg) (base := X.base) (E := E) (vs := [V.ref f]) (us := [Value.ref f]) sc c.room.hd I1.env0 rfl (.cons rfl .nil) ic
    have cg : Cg gy (cxOf (L2.CX X.prog X.w) X.prog X.w X.K X.mg X.base N x (defScope st) g cdv X.A X.stack s1 H1 E) E j :=
      ⟨(room1 _).mono (by omega), fun z => c.gd (hz z), rfl, sc.nd, passes_call (takes_of rfl rfl rfl rfl) fun _ _ _ _ z => z, passes_of rfl⟩
    have act : ActOk (cxOf (L2.CX X.prog X.w) X.prog X.w X.K X.mg X.base N x (defScope st) g cdv X.A X.stack s1 H1 E) a (.lam f c' (X.env.qual ++ "<lambda>") ρ σ) (we ρ) := fun pn xe E' p1 p2 tk => by
      refine ⟨PE.imp (pe_act (i := 0) (k := k - 2) (tb := tE X.K E' we) I1 L hf hfn hfr (hbind _ _ _ _ _) tk (fun _ _ _ _ z => z) ((room1 _).mono (by omega)) (fun A outer s H r2 => (he A outer s H E' f c' (cg_lam c r2)).run) hN0 hva ha1 ha2) fun σZ HZ Q hq => ?_, fun ρ1 h1 Q Q' X X' hQ hX z => ⟨z.1, moE _ _ _ _ _ _ hQ hX z.2⟩⟩
      obtain ⟨F3, ρz, h3, S3, R3, hd, q3⟩ := hq
      obtain ⟨v, hv, rep⟩ := R3.2 0 _ hd
      cases rep with
      | lam hc re => exact ⟨hv, S3.fz _ _ hc, F3, ρ, h3, S3, re.env, q3⟩
    have B := bodyH (.lam f c' (X.env.qual ++ "<lambda>") ρ σ) (we ρ) (fun h Q Q' X X' hQ hX z => moE _ _ _ _ _ _ hQ hX z) cdv X.A X.stack s1 H1 E cg act
    have go : tS X.K E (W (.lam f c' (X.env.qual ++ "<lambda>") ρ σ) (we ρ)) { nx := fun _ H' => Q .non H', rt := Q } (L2.start N [.ref f]) H1 := by
      refine ⟨F1, _, h, S1, start_env (ds := [.lam f c' (X.env.qual ++ "<lambda>") ρ σ]) (.cons (.lam hco R1.rep) .nil), B.mo (endsD (LQ X.K F1 Q) (LX X.K F1 E)) _ _ _ ⟨fun ρ h z => ?_, fun d h z => LQ.fin z, fun _ _ z => False.elim z, fun _ _ z => False.elim z, fun _ _ z => z⟩ (pureH _ (we ρ) (moW ρ) h _ _ (M.mo _ (moW ρ) _ _ _ _ _ (fun d h z => LQ.ext e1 z) (fun x h z => LX.ext e1 z) q))⟩
      exact fun F' H' σ' e S' _ => LQ.fin z F' H' .non e S' .non
    refine wpAny_mono (B.run.run [] s2 _ H1 _ I2 go) (fun fl s' hq => ?_) fun e s' hq => hq
    cases fl with
    | ret u =>
      obtain ⟨v, σ', H', J, rv, q⟩ := hq
      exact ⟨v, H', J.os, J.bare, J.base, J.hok, rv, q⟩
    | next =>
      obtain ⟨σ', H', J, q⟩ := hq
      exact ⟨.non, H', J.os, J.bare, J.base, J.hok, rfl, q⟩
    | brk => obtain ⟨_, _, _, q⟩ := hq; exact q.elim
    | cont => obtain ⟨_, _, _, q⟩ := hq; exact q.elim
  refine wpAny_call (codeAny_mono rc fun r s3 hq => ?_)
  match r, hq with
  | .error e, hq => exact c.ps pins σ H1 s1 e s3 I1 hq
  | .ok (.ret u), hq => exact I1.after hq
  | .ok .next, hq => exact hq.elim
  | .ok .brk, hq => exact hq.elim
  | .ok .cont, hq => exact hq.elim
end
end DL
/-! the end of a law that makes lambdas; defs that make lambdas -/
namespace DL
open PySem PySem.Spec L2 C8 PyProof.Rows LamX
/-- a def whose code object is known -/
structure FunC (K : PySem.W.Frag) (x qual : Str) (st : Stmt) (f : Addr) (fd : FuncData) (cc : Addr) : Prop where
  ex : ∃ (oc : Value) (od : Option Addr) (kV doc pm : Value) (an : Option Addr) (ct : Value) (osl : Array (Option Value)),
    fd = PySem.W.fnOf x qual (defArgs st) (defBody st) (defScope st) .none kV doc pm an (.ref cc) ct ∧ K.lookup f = some ⟨oc, od, .func fd, osl⟩ ∧ PySem.W.codeIn K (.ref cc) qual = true
theorem FunC.of {K : PySem.W.Frag} {x qual : Str} {st : Stmt} {f : Addr} {fd : FuncData} {cc : Addr} (F : L2.Fun K x qual st f fd) (h : fd.code = .ref cc) : FunC K x qual st f fd cc := by
  obtain ⟨oc, od, kV, doc, pm, an, cdv, ct, osl, rfl, lk, hcd⟩ := F.ex
  have e : cdv = .ref cc := h
  subst e
  exact ⟨oc, od, kV, doc, pm, an, ct, osl, rfl, lk, hcd⟩
/-- the code object and the table of a def of the module -/
theorem tabIn_of {K : PySem.W.Frag} {x : Str} {f cc P : Addr} {oc kc : Value} {od kd : Option Addr} {fd : FuncData} {osl ks : Array (Option Value)} {vs : Array Value} (hn : PySem.W.nsIn K mainGlobals x = some (some (.ref f))) (hf : K.lookup f = some ⟨oc, od, .func fd, osl⟩) (hc : fd.code = .ref cc)
    (hk : K.lookup cc = some ⟨kc, kd, .fields vs, ks⟩) (hv : vs[11]? = some (.ref P)) : PySem.W.tabIn K x = some (cc, P) := by
  unfold PySem.W.tabIn
  simp only [hn, hf, hc, hk, hv]
/-- three classes in an except clause -/
theorem exm3_of {K : PySem.W.Frag} {cls : Value} {C1 C2 C3 : Addr} {b1 b2 b3 : Bool} (h1 : PySem.W.exmOne K cls (.ref C1) = some b1) (h2 : PySem.W.exmOne K cls (.ref C2) = some b2) (h3 : PySem.W.exmOne K cls (.ref C3) = some b3) (hb : (b1 || (b2 || (b3 || false))) = true) :
    PySem.W.exmAny K cls [.ref C1, .ref C2, .ref C3] = some true := by
  simp only [PySem.W.exmAny, h1, h2, h3, hb]
section
variable {P : Program} {w : World} {K : PySem.W.Frag} {mg : Str → Option Value} {base : Heap}
/-- THE RULE for a def whose code object is known -/
theorem fng_ofC {gz : Bool} {x qual : Str} {st : Stmt} {f cc : Addr} {fd : FuncData} {N ps : List Str} {k : Nat} {S : FSpec} {W : WS}
    (F : FunC K x qual st f fd cc) (sc : FnScope N ps (defScope st)) (len : ∀ ds h Q X, S ds h Q X → ds.length = ps.length) (mo : MoF S)
    (body : ∀ (A : Around) (outer : List PySem.Env) (s : Shared) (H : Hp) (E : XK), Cg gz (cxOf (L2.CX P w) P w K mg base N qual (defScope st) f (.ref cc) A outer s H E) E k →
      ASs (cxOf (L2.CX P w) P w K mg base N qual (defScope st) f (.ref cc) A outer s H E) E (defBody st) W)
    (pure : ∀ ds h Q X, S ds h Q X → W (endsD Q X) (startD N.length ds) h) : FnG gz P w K mg base (k + 1) f fd ps S := by
  refine ⟨len, mo, fun {A outer s H args us vs Q E} hr hg e0 hb hv hs => ?_⟩
  obtain ⟨oc, od, kV, doc, pm, an, ct, osl, rfl, lk, hcd⟩ := F.ex
  have lenv := spD_len len hs
  have inK : K.In s.heap := e0.mod.kin.keeps fun b o e => (e0.bs b o e).1
  have nol : s.heap.NoLimit := e0.mod.nolimit.keeps fun b o e => (e0.bs b o e).1
  have kinds : ∀ y ∈ ps.zip us, (defScope st).names.lookup y.1 = some .local ∨ ((defScope st).names.lookup y.1 = some .cell ∧ ((cellsFrom (s.heap.objs.size + 1) (defScope st).names []).lookup y.1).isSome = true) := by
    rintro ⟨n, v⟩ hy
    rcases sc.par n (List.of_mem_zip hy).1 with q | q
    · exact .inl q
    · exact .inr ⟨q, PySem.W.cellsFrom_some _ _ _ (.inl q)⟩
  refine codeAny_call_function hr.depth (inK _ _ lk) rfl sc.co sc.gen rfl (PySem.W.codeRec_of inK hcd) (hb _ _ _ _ (wpAny_newFunctionEnv_cells sc.kind kinds fun env he s1 ic => ?_))
  subst he
  refine ⟨nol.keeps ic.toInCall.keep, codeAny_func ?_⟩
  have I := inv_start (CX := L2.CX P w) (P := P) (w := w) (mg := mg) (base := base) (E := E) sc hr.hd e0 lenv hv ic
  have c : Cg gz (cxOf (L2.CX P w) P w K mg base N qual (defScope st) f (.ref cc) A outer s H E) E k := ⟨hr.deeper _, hg, rfl, sc.nd, passes_call (takes_of rfl rfl rfl rfl) fun _ _ _ _ z => z, passes_of rfl⟩
  obtain ⟨F0, ds, g, S0, r0, q0⟩ := hs
  have B := body A outer s H E c
  have go : tS K E W { nx := fun _ H' => Q .non H', rt := Q } (L2.start N vs) H :=
    ⟨F0, _, g, S0, start_env r0, B.mo (endsD (LQ K F0 Q) (LX K F0 E)) _ _ _ ⟨fun ρ h z F' H' σ' e S' _ => LQ.fin z F' H' .non e S' .non, fun d h z => LQ.fin z, fun _ _ z => False.elim z, fun _ _ z => False.elim z, fun _ _ z => z⟩ (pure ds g _ _ q0)⟩
  refine wpAny_mono (B.run.run [] s1 _ H _ I go) (fun fl s' hq => ?_) fun e s' hq => hq
  cases fl with
  | ret u =>
    obtain ⟨v, σ', H', J, rv, q⟩ := hq
    exact ⟨v, H', J.os, J.bare, J.base, J.hok, rv, q⟩
  | next =>
    obtain ⟨σ', H', J, q⟩ := hq
    exact ⟨.non, H', J.os, J.bare, J.base, J.hok, rfl, q⟩
  | brk => obtain ⟨_, _, _, q⟩ := hq; exact q.elim
  | cont => obtain ⟨_, _, _, q⟩ := hq; exact q.elim
end
/-- what is known of the law at the head's heap: T tells the tables: code object, table, the lambdas' name -/
structure LawT (gz : Bool) (l : PySem.W.OpenLaw) (w : World) (K : PySem.W.Frag) (k n : Nat) (x : Str) (mg : Str → Option Value) (fa : Addr) (names : List Str) : Prop where
  ex : ∃ (fd : FuncData) (S : FSpec) (T : List (Str × Addr × Addr × Str)), (∀ (s : Shared) (u : Value), BindsTo s fd ⟨[u], []⟩ [(x, u)]) ∧ (∀ p ∈ T, p.1 ∈ names ∧ PySem.W.tabIn K p.1 = some (p.2.1, p.2.2.1) ∧ K.lookup p.2.2.1 = none) ∧
    (∀ (js : List Int) (h : AH), js.length ≤ n → (∀ p ∈ T, h p.2.2.1 = some (.tab p.2.2.2)) → S [.lk (js.map D.int)] h (fun d _ => d = .bl true) (fun _ _ => False)) ∧ (T.map (·.2.2.1)).Nodup ∧
    ∀ base : Heap, K.In base → base.Ns mainGlobals mg → (∀ p ∈ T, TabB base mg p.2.1 p.2.2.1) → FnG gz l.prog w K mg base k fa fd [x] S
section
variable {P : Program} {w : World} {K : PySem.W.Frag} {mg bm : Str → Option Value} {k : Nat} {fa q : Addr} {fd : FuncData} {x : Str} {S : FSpec} {t : Shared} {us : List Value} {js : List Int} {T : List (Str × Addr × Addr × Str)}
theorem tabs_at {ob : Addr → Option AO} : ∀ {T : List (Str × Addr × Addr × Str)}, (T.map (·.2.2.1)).Nodup → ∃ h : AH, (∀ p ∈ T, h p.2.2.1 = some (.tab p.2.2.2)) ∧ ∀ b o, h b = some o → ∃ p ∈ T, b = p.2.2.1 ∧ o = .tab p.2.2.2
  | [], _ => ⟨fun _ => none, ⟨fun p hp => (nomatch hp), fun b o e => (nomatch e)⟩⟩
  | p :: T, nd => by
    rw [List.map_cons, List.nodup_cons] at nd
    obtain ⟨h, h1, h2⟩ := tabs_at (ob := ob) nd.2
    refine ⟨up h p.2.2.1 (.tab p.2.2.2), fun p' hp' => ?_, fun b o e => ?_⟩
    · rcases List.mem_cons.mp hp' with rfl | hp'
      · exact up_same
      · rw [up_ne (fun z => nd.1 (by rw [← z]; exact List.mem_map.mpr ⟨p', hp', rfl⟩))]; exact h1 _ hp'
    · by_cases c : b = p.2.2.1
      · subst c
        rw [up_same] at e
        obtain rfl := Option.some.inj e
        exact ⟨p, List.mem_cons_self, rfl, rfl⟩
      · rw [up_ne c] at e
        obtain ⟨p', hp', z⟩ := h2 b o e
        exact ⟨p', List.mem_cons_of_mem _ hp', z⟩
theorem dl_callT (KX : K.In t.heap) (n1 : t.heap.Ns mainGlobals mg) (n2 : t.heap.Ns builtinsNs bm) (bb : ∀ y : Str, y ≠ "__name__" → bm y = bootBuiltins y) (nl : t.heap.NoLimit) (ng : t.gens = #[])
    (hT : ∀ p ∈ T, t.heap.get? p.2.2.1 = some { cls := .none, data := .fields #[] }) (nT : ∀ p ∈ T, K.lookup p.2.2.1 = none) (hC : ∀ p ∈ T, PySem.W.CodeHd t.heap p.2.1 p.2.2.1) (nd : (T.map (·.2.2.1)).Nodup)
    (hbm : ∃ (bm : Addr) (ob : Obj), mg "__builtins__" = some (.ref bm) ∧ bm ≠ builtinsNs ∧ t.heap.get? bm = some ob ∧ ob.cls = .type "module" ∧ ob.dict = some builtinsNs ∧ ob.data = .plain)
    (hq : t.heap.get? q = some { cls := .type "list", data := .seq us.toArray }) (ia : IntsAre us js) (lj : js.length ≤ sizeLine) (rm : Room k callerA)
    (G : ∀ base : Heap, K.In base → base.Ns mainGlobals mg → (∀ p ∈ T, TabB base mg p.2.1 p.2.2.1) → FnG gz P w K mg base k fa fd [x] S) (hb : ∀ (s : Shared) (u : Value), BindsTo s fd ⟨[u], []⟩ [(x, u)])
    (hS : ∀ h : AH, (∀ p ∈ T, h p.2.2.1 = some (.tab p.2.2.2)) → S [.lk (js.map D.int)] h (fun d _ => d = .bl true) (fun _ _ => False)) :
    codeAny (model P w) callerA (.call (.ref fa) ⟨[.ref q], []⟩) (fun r s' => r = .ok (.ret (.bool true)) ∧ OldK t.heap s'.heap ∧ s'.os = t.os ∧ AllBare s'.gens) t := by
  obtain ⟨H, B⟩ := beg_of (P := P) (w := w) KX hq ia lj
  obtain ⟨h0, t1, t2⟩ := tabs_at (ob := fun _ => none) nd
  have isT : ∀ b o, h0 b = some o → t.heap.get? b = some { cls := .none, data := .fields #[] } := fun b o e => by
    obtain ⟨p, hp, rfl, _⟩ := t2 b o e
    exact hT p hp
  have qT : h0 q = none := by
    cases e : h0 q with
    | none => rfl
    | some o =>
      have z := (isT q o e).symm.trans hq
      have z2 : Data.fields #[] = Data.seq us.toArray _ := congrArg Obj.data (Option.some.inj z)
      cases z2
  have HnT : ∀ b o, h0 b = some o → H b = none := fun b o e => by
    by_cases z : H b = none
    · exact z
    · obtain rfl := B.at_ b z
      rw [qT] at e; cases e
  have G0 : ∃ H2 : Hp, (∀ b o, h0 b = some o → H2 b = some (.tbl #[])) ∧ ∀ b, h0 b = none → H2 b = H b := by
    refine ⟨fun b => match h0 b with | some _ => some (.tbl #[]) | none => H b, fun b o e => ?_, fun b e => ?_⟩
    · show (match h0 b with | some _ => some (HO.tbl #[]) | none => H b) = _
      rw [e]
    · show (match h0 b with | some _ => some (HO.tbl #[]) | none => H b) = _
      rw [e]
  obtain ⟨H2, k1, k2⟩ := G0
  have fromH : ∀ b u, H b = some u → H2 b = some u := fun b u e => by
    have z : h0 b = none := by
      cases y : h0 b with
      | none => rfl
      | some o => rw [HnT b o y] at e; cases e
    rw [k2 b z]; exact e
  have ok2 : HOk P w H2 t.heap := fun b u e => by
    cases y : h0 b with
    | some o =>
      obtain rfl := Option.some.inj ((k1 b o y).symm.trans e)
      exact isT b o y
    | none =>
      rw [k2 b y] at e
      exact (B.ok b u e).stay (fun c v _ z => z) (fun c z => fromH _ _ z) fun c xs z => fromH _ _ z
  have low : ∀ {b : Addr} {ob : Obj}, t.heap.get? b = some ob → H2 b = none → (hidT t.heap H2).get? b = some ob := fun e z => hidT_get e z
  have noD : ∀ {b : Addr} {ob : Obj}, t.heap.get? b = some ob → (∀ v n, ob.data ≠ .seq v n) → ob.data ≠ .fields #[] → H2 b = none := by
    intro b ob e d1 d2
    cases y : h0 b with
    | some o =>
      obtain rfl := Option.some.inj ((isT b o y).symm.trans e)
      exact absurd rfl d2
    | none =>
      rw [k2 b y]
      by_cases z : H b = none
      · exact z
      · obtain rfl := B.at_ b z
        obtain rfl := Option.some.inj (hq.symm.trans e)
        exact absurd rfl (d1 _ _)
  have ns : ∀ {b : Addr} {m : Str → Option Value}, t.heap.Ns b m → (hidT t.heap H2).Ns b m := fun ⟨ob, es, ep, e, d, r⟩ => ⟨ob, es, ep, low e (noD e (fun v n z => by rw [d] at z; cases z) (fun z => by rw [d] at z; cases z)), d, r⟩
  have hK : K.In (hidT t.heap H2) := fun b ob e => low (KX b ob e) (by
    cases y : h0 b with
    | some o =>
      obtain ⟨p, hp, rfl, _⟩ := t2 b o y
      rw [nT p hp] at e; cases e
    | none =>
      rw [k2 b y]
      by_cases z : H b = none
      · exact z
      · obtain rfl := B.at_ b z
        rw [B.out z] at e; cases e)
  have M : Mod K mg (hidT t.heap H2) := by
    obtain ⟨mc, l1, l2⟩ := nl
    exact ⟨hK, ns n1, ⟨bm, ns n2, bb⟩, mc, ns l1, l2⟩
  have TB : ∀ p ∈ T, TabB (hidT t.heap H2) mg p.2.1 p.2.2.1 := fun p hp => by
    have hTp := hT p hp
    refine ⟨?_, ?_, fun z => ?_⟩
    · obtain ⟨o, vs, file, tf, flags, tg, inF, text, tt, e1, r1, r2, r3, r4, r5, r6, r7, r8, r9⟩ := hC p hp
      exact ⟨o, vs, file, tf, flags, tg, inF, text, tt, low e1 (noD e1 (fun v n z => by rw [r2] at z; cases z) (fun z => by rw [r2] at z; cases z; simp at r3)), r1, r2, r3, r4, r5, r6, r7, r8, r9⟩
    · obtain ⟨bm, ob, b1, b2, b3, b4, b5, b6⟩ := hbm
      refine ⟨bm, ob, b1, b2, fun z => ?_, fun z => ?_, low b3 (noD b3 (fun v n z => by rw [b6] at z; cases z) (fun z => by rw [b6] at z; cases z)), b4, b5, b6⟩
      · obtain ⟨o, es, ep, e, hd, _⟩ := n1
        rw [z, e] at b3
        obtain rfl := Option.some.inj b3
        rw [hd] at b6; cases b6
      · rw [z, hTp] at b3
        obtain rfl := Option.some.inj b3
        cases b6
    · obtain ⟨o, es, ep, e, hd, _⟩ := n1
      rw [z, hTp] at e
      obtain rfl := Option.some.inj e
      cases hd
  have none_in : ∀ {b : Addr}, b ∉ ([] : List Addr) := fun h => by cases h
  have e0 : Env0 P w K mg (hidT t.heap H2) callerA [] t H2 := ⟨rfl, M, fun b ob e => of_hidT e, Nat.le_of_eq (hidT_size _ _), trivial, fun b h => absurd h none_in, ok2, .of_eq ng⟩
  have FG := G _ hK (ns n1) TB
  have sp : spD K S [.ref q] H2 (fun v _ => v = .bl true) (fun _ _ _ => False) := by
    refine ⟨H, _, h0, ⟨fun a o e => fromH a o e, fun b o e => ⟨HnT b o e, _, k1 b o e, ?_⟩⟩, .cons (.lk B.sq ?_) .nil, FG.mo _ _ _ _ _ _ (fun d h e => ?_) (fun _ _ z => z.elim) (hS h0 t1)⟩
    · obtain ⟨p, hp, rfl, rfl⟩ := t2 b o e
      exact ⟨#[], rfl, True.intro, fun pos cv z => by simp [codeAmong] at z⟩
    · clear hS hq ia lj B e0 t1 t2 isT qT HnT fromH ok2
      induction js with
      | nil => exact .nil
      | cons j js ih => exact .cons (.int j) ih
    · intro F' H' v _ _ r
      subst e
      cases r; rfl
  refine codeAny_mono (FG.run (args := ⟨[.ref q], []⟩) (us := [.ref q]) (vs := [.ref q]) rm (fun _ => rfl) e0 (hb t (.ref q)) (.cons rfl .nil) sp) fun r s' h => ?_
  match r, h with
  | .error e, h => obtain ⟨_, _, _, _, _, _, _, _, _, _, _, _, h⟩ := h; exact h.elim
  | .ok .next, h => exact h.elim
  | .ok .brk, h => exact h.elim
  | .ok .cont, h => exact h.elim
  | .ok (.ret u), h =>
    obtain ⟨v, H3, os, bare, un, ok3, r2, e⟩ := h
    have e : v = .bl true := e
    subst e
    obtain rfl : u = Value.bool true := r2
    have grown : ∀ b o, h0 b = some o → ∃ more : Array Value, s'.heap.get? b = some { cls := .none, data := .fields more } := fun b o y => by
      obtain ⟨more, z⟩ := un.tbls b #[] (k1 b o y)
      exact ⟨_, ok3 b _ z⟩
    have rest : ∀ b ob, h0 b = none → t.heap.get? b = some ob → s'.heap.get? b = some ob := fun b ob y e => by
      rcases B.fz b with z | ⟨o2, ys, z⟩
      · exact un.keep b ob e (by rw [k2 b y]; exact z) none_in (by simp)
      · have d1 := (B.ok b _ z).1
        have d2 := (ok3 b _ (un.frzs b o2 _ (fromH _ _ z))).1
        rw [d1] at e
        obtain rfl := Option.some.inj e
        exact d2
    refine ⟨rfl, ⟨fun b o e => ?_, fun b o e => ?_⟩, os, bare⟩
    · cases y : h0 b with
      | none => exact .inl (rest b o y e)
      | some u =>
        obtain ⟨more, hm⟩ := grown b u y
        obtain ⟨p, hp, rfl, _⟩ := t2 b u y
        have e2 := hT p hp
        rw [e] at e2
        obtain rfl := Option.some.inj e2
        exact .inr (.inl ⟨((hC p hp).tab (hT p hp)).isCodeTable, rfl, #[], more, rfl, by rw [Array.empty_append]; exact hm⟩)
    · cases y : h0 b with
      | none => exact ⟨o, rest b o y e⟩
      | some u =>
        obtain ⟨more, hm⟩ := grown b u y
        exact ⟨_, hm⟩
end
end DL
namespace Hx
open PySem PySem.Spec PyProof.Rows L2 DL
/-- .. where defs make lambdas -/
theorem walkXT {gz : Bool} {l : PySem.W.OpenLaw} {n k : Nat} {p : Program} {loose : List Str} {XP : (Str → Option Value) → Heap → Prop} {YP : World → Heap → Prop} {d : DefRec} {x : Str} {names : List Str}
    (hn : l.most = some n) (hz : n ≤ sizeLine) (hd : d.params.defaults = []) (rm : Room k callerA) (hr : (names.all fun x => ((recsOf p).find? fun e => e.name == x).isSome) = true)
    (G : ∀ (w : World) (mg : Str → Option Value) (fa : Addr) (h : Heap), YP w h → h.Ns mainGlobals mg → mg d.name = some (.ref fa) → ∃ K : Fr, K.In h ∧ LawT gz l w K k n x mg fa names) :
    PySem.W.WalkO p loose XP YP l.row.toRowW d [] (fun f vs => PySem.call f vs) := by
  refine Att.attach_call hn hd fun w t0 t mg bm fa ob pm cd doc q us js Gr Y ho hdat hcd hmg hq ia lj ng => ?_
  obtain ⟨K, KX, L⟩ := G w mg fa _ Y Gr.T.g hmg
  obtain ⟨fd, S, T, hb, hT, hS, nd, hF⟩ := L.ex
  have tabs : ∀ p' ∈ T, PySem.W.CodeHd t.heap p'.2.1 p'.2.2.1 ∧ t.heap.get? p'.2.2.1 = some { cls := .none, data := .fields #[] } := fun p' hp => by
    obtain ⟨m, ht, _⟩ := hT p' hp
    obtain ⟨dr, hdr⟩ := Option.isSome_iff_exists.mp (List.all_eq_true.mp hr _ m)
    exact PySem.W.tab_of Gr.T KX hdr ht
  exact dl_callT KX Gr.T.g Gr.T.b Gr.T.builtins Gr.T.nolimit ng (fun p hp => (tabs p hp).2) (fun p hp => (hT p hp).2.2) (fun p hp => (tabs p hp).1) nd Gr.T.bmain hq ia (Nat.le_trans lj hz) rm hF hb (fun h hh => hS js h lj hh)
end Hx
namespace Hx
open PySem PySem.Spec PyProof.Rows L2 DL HandSHeadRun
/-- a look at the end of the run for the facts alone -/
def RunO (r : PySem.W.OpenRow) (q : Program) (H : PySem.W.Hook) (ob : PySem.W.SharedT → H.α) (M : Nat) (w : World) : Prop :=
  ∀ os : OsState, (endF (stepQ (denQ tabQ) r.prog w) M r.prog w os).map ob = some (H.val w)
theorem runO_join {r : PySem.W.OpenRow} {q : Program} {N : Nat} {no : List Addr} {t1 t2 : List (List (Fr → Bool))} {fn : List FnX} {M : Nat} {w : World}
    (h1 : RunO r q (hookX N no t1 []) (obT N no t1 []) M w) (h2 : RunO r q (hookX N no t2 fn) (obT N no t2 fn) M w) : RunO r q (hookX N no (t1 ++ t2) fn) (obT N no (t1 ++ t2) fn) M w := by
  intro os
  have a := h1 os
  have b := h2 os
  revert a b
  generalize endF _ _ _ _ _ = e
  cases e with
  | none => intro a; cases a
  | some s =>
    intro a b
    have a3 := Option.some.inj a
    have b3 := Option.some.inj b
    refine congrArg some ?_
    clear a b
    revert a3 b3
    unfold obT obX
    generalize frX N no (getT s) = K
    intro a3 b3
    have a4 := congrArg Prod.fst a3
    have b4 := congrArg Prod.fst b3
    have b5 := congrArg Prod.snd b3
    dsimp only at a4 b4 b5 ⊢
    rw [List.all_append, a4, b4, b5]
    rfl
theorem run_base {r : PySem.W.OpenRow} {q : Program} {N : Nat} {no : List Addr} {t : List (List (Fr → Bool))} {fn : List FnX} {M : Nat} {loose : List PySem.Str} {w : World}
    (hb : RunEq r q (hookX N no [] []) (obT N no [] []) M loose w) (h : RunO r q (hookX N no t fn) (obT N no t fn) M w) : RunEq r q (hookX N no t fn) (obT N no t fn) M loose w := by
  intro os
  have a := hb os
  have b := h os
  revert a b
  generalize endF _ _ _ _ _ = e
  cases e with
  | none => intro a; cases a
  | some s =>
    intro a b
    have a := Option.some.inj a
    have b := Option.some.inj b
    have a1 := congrArg (fun x => x.1) a
    have a2 := congrArg (fun x => x.2.1) a
    dsimp only at a1 a2
    exact congrArg some (Prod.ext a1 (Prod.ext a2 b))
end Hx
namespace DL
open PySem PySem.Spec L2 C8
section
variable {X : Cx} {E : XK} {k : Nat} {a b c e : Expr} {wa wb wc : WE} {pos : Pos} {op op' : CmpOp} {r r' : R2} {f g : D → D → AH → KD → Prop}
theorem to_chain (ok : OpD X.K r f) (ok' : OpD X.K r' g) (ha : AE X E a wa) (hb : AE X E b wb) (hc : AE X E c wc) {σ : L2.St} {H : Hp} {Q : VK} (h : tE X.K E (wChain f g wa wb wc) σ H Q) : tChain r r' (tE X.K E wa) (tE X.K E wb) (tE X.K E wc) σ H Q := by
  obtain ⟨F, ρ, g0, S, R, q⟩ := h
  refine ⟨F, ρ, g0, S, R, ha.mo _ _ _ _ _ _ (fun x h1 hx => ?_) (fun _ _ z => z) q⟩
  intro F1 H1 vx e1 S1 rx
  refine ⟨F1, ρ, h1, S1, R.ext e1, hb.mo _ _ _ _ _ _ (fun y h2 hf => ?_) (fun _ _ z => LX.ext e1 z) hx⟩
  intro F2 H2 vy e2 S2 ry
  refine ok.to S2 (rx.ext e2) ry (ok.mo (fun z h3 hz => ?_) hf)
  intro F3 H3 v3 e3 S3 r3
  split at hz
  · rename_i kk
    cases r3
    refine ⟨kk, rfl, ?_⟩
    split at hz
    · rename_i ck
      rw [if_pos ck]
      refine ⟨F3, ρ, h3, S3, R.ext (e1.trans (e2.trans e3)), hc.mo _ _ _ _ _ _ (fun u h4 hg => ?_) (fun _ _ z => LX.ext (e1.trans (e2.trans e3)) z) hz⟩
      intro F4 H4 vu e4 S4 ru
      exact ok'.to S4 (ry.ext (e3.trans e4)) ru (ok'.mo (fun _ _ z => LQ.ext (e1.trans (e2.trans (e3.trans e4))) z) hg)
    · rename_i ck
      rw [if_neg ck]
      exact hz F3 H3 _ (e1.trans (e2.trans e3)) S3 (.bl _)
  · exact hz.elim
theorem ae_chain2 (ok : OpD X.K r f) (ok' : OpD X.K r' g) (ho : OpR X (compareOp op) r) (ho' : OpR X (compareOp op') r') (ha : AE X E a wa) (hb : AE X E b wb) (hc : AE X E c wc)
    (hm : lastMarks [op, op'] [b, c] = false := by with_unfolding_all rfl) : AE X E (.Compare a [op, op'] [b, c] pos) (wChain f g wa wb wc) :=
  ⟨PE.imp (pe_chain ho ho' ha.run hb.run hc.run hm) fun σ H Q h => to_chain ok ok' ha hb hc h, mo_chain ok.mo ok'.mo ha.mo hb.mo hc.mo⟩
end
/-! ### the built-in names -/
theorem bb_len : bootBuiltins "len" = some (.builtin "len") := by decide +kernel
theorem bb_abs : bootBuiltins "abs" = some (.builtin "abs") := by decide +kernel
theorem bb_max : bootBuiltins "max" = some (.builtin "max") := by decide +kernel
theorem bb_repr : bootBuiltins "repr" = some (.builtin "repr") := by decide +kernel
theorem bb_isinstance : bootBuiltins "isinstance" = some (.builtin "isinstance") := by decide +kernel
theorem bb_int : bootBuiltins "int" = some (.type "int") := by decide +kernel
theorem bb_bool : bootBuiltins "bool" = some (.type "bool") := by decide +kernel
theorem bb_str : bootBuiltins "str" = some (.type "str") := by decide +kernel
theorem bb_list : bootBuiltins "list" = some (.type "list") := by decide +kernel
theorem bb_tuple : bootBuiltins "tuple" = some (.type "tuple") := by decide +kernel
theorem bb_dict : bootBuiltins "dict" = some (.type "dict") := by decide +kernel
/-- a name of the module that holds an int -/
theorem cst_int {K : PySem.W.Frag} {mg : Str → Option Value} {x : Str} {i : Int} {t : Tok} (h : mg x = some (.int i t)) : Cst K mg x (.int i) := ⟨⟨.int i, _, h, ⟨t, rfl⟩, fun _ => .int i⟩⟩
end DL
namespace PySem.W
open PySem PySem.Spec PySem.Calls PyProof.Rows
end PySem.W
namespace L2
open PySem PySem.Spec PyProof.Rows
end L2
namespace DL
open PySem PySem.Spec L2 C8
end DL
namespace DL
open PySem PySem.Spec L2 C8
/-! ### a tuple of texts that a name of the module holds -/
end DL
namespace K25
open PySem PySem.Spec L2 DL PyProof.Rows
/-! ### the text by places (printed by gen4.py) -/
def top (i : Nat) : Stmt := PySem.Challenge.pw_forkecho_k25_ledgers_made.main.body.getD i (.Pass ⟨0, 0, 0, 0⟩)
abbrev s_is_integer : Stmt := top 31
abbrev s_is_between : Stmt := top 32
abbrev s_is_row : Stmt := top 36
abbrev s_Ledger___init__ : Stmt := inClass (top 37) 0
abbrev s_Ledger_rows : Stmt := inClass (top 37) 1
abbrev s_Ledger_greatest : Stmt := inClass (top 37) 2
abbrev s_Ledger___getitem__ : Stmt := inClass (top 37) 3
abbrev s_Ledger___contains__ : Stmt := inClass (top 37) 5
abbrev s_Ledger___len__ : Stmt := inClass (top 37) 6
abbrev s_Ledger___add__ : Stmt := inClass (top 37) 7
abbrev s_Ledger___eq__ : Stmt := inClass (top 37) 16
abbrev s_Ledger___repr__ : Stmt := inClass (top 37) 18
abbrev s__law_pen : Stmt := top 39
abbrev s__law_draw : Stmt := top 40
abbrev s__law_word : Stmt := top 41
abbrev s__law_field : Stmt := top 42
abbrev s__law_more_field : Stmt := top 43
abbrev s__law_heard : Stmt := top 44
abbrev s__law_offset : Stmt := top 45
abbrev s__law_amount : Stmt := top 46
abbrev s__law_rows : Stmt := top 47
abbrev s__law_sums : Stmt := top 48
abbrev s__law_ledger : Stmt := top 49
abbrev s__law_odd : Stmt := top 50
abbrev s__law_refused_right : Stmt := top 51
abbrev s__law_told_right : Stmt := top 52
abbrev s__law_alike_right : Stmt := top 53
abbrev s__law_long_right : Stmt := top 54
abbrev s_law : Stmt := top 55
abbrev s_InvalidRow___init__ : Stmt := inClass (top 7) 0
abbrev ck_0 (K : Hx.Fr) : Bool := decide (PySem.W.nsIn K mainGlobals "Ledger" = some (some (.ref (Hx.gl K "Ledger"))))
abbrev ck_1 (K : Hx.Fr) : Bool := decide (PySem.W.plainGet K (Hx.gl K "Ledger") Str.empty = true)
abbrev ck_2 (K : Hx.Fr) : Bool := decide (PySem.W.hasDictIn K (Hx.gl K "Ledger") = true)
abbrev ck_3 (K : Hx.Fr) : Bool := decide (PySem.W.plainOver K (Hx.gl K "Ledger") = true)
abbrev ck_4 (K : Hx.Fr) : Bool := decide (PySem.W.findIn K (.ref (Hx.gl K "Ledger")) "__setattr__" = some (some (.builtin "object.__setattr__")))
abbrev ck_5 (K : Hx.Fr) : Bool := decide (PySem.W.makesIn K (Hx.gl K "Ledger") = true)
abbrev ck_6 (K : Hx.Fr) : Bool := decide (PySem.W.keepIn K (.ref (Hx.gl K "Ledger")) = true)
abbrev ck_7 (K : Hx.Fr) : Bool := decide (PySem.W.selfFirst K (Hx.gl K "Ledger") = true)
abbrev ck_8 (K : Hx.Fr) : Bool := decide (PySem.W.findIn K (.ref (Hx.gl K "Ledger")) "amounts" = some none)
abbrev ck_9 (K : Hx.Fr) : Bool := decide (PySem.W.mroIn K (Hx.gl K "Ledger") (.type "object") = some true)
abbrev ck_10 (K : Hx.Fr) : Bool := decide (PySem.W.findIn K (.ref (Hx.gl K "Ledger")) "__ne__" = some (some (.builtin "object.__ne__")))
abbrev ck_11 (K : Hx.Fr) : Bool := decide (PySem.W.subIn K (.type "NoneType") (.ref (Hx.gl K "Ledger")) = some false)
abbrev ck_12 (K : Hx.Fr) : Bool := decide (PySem.W.subIn K (.type "bool") (.ref (Hx.gl K "Ledger")) = some false)
abbrev ck_13 (K : Hx.Fr) : Bool := decide (PySem.W.subIn K (.type "int") (.ref (Hx.gl K "Ledger")) = some false)
abbrev ck_14 (K : Hx.Fr) : Bool := decide (PySem.W.subIn K (.type "str") (.ref (Hx.gl K "Ledger")) = some false)
abbrev ck_15 (K : Hx.Fr) : Bool := decide (PySem.W.subIn K (.type "tuple") (.ref (Hx.gl K "Ledger")) = some false)
abbrev ck_16 (K : Hx.Fr) : Bool := decide (PySem.W.subIn K (.type "list") (.ref (Hx.gl K "Ledger")) = some false)
abbrev ck_17 (K : Hx.Fr) : Bool := decide (PySem.W.subIn K (.type "dict") (.ref (Hx.gl K "Ledger")) = some false)
abbrev ck_18 (K : Hx.Fr) : Bool := decide (PySem.W.findIn K (.ref (Hx.gl K "Ledger")) "__bool__" = some none)
abbrev ck_19 (K : Hx.Fr) : Bool := decide (PySem.W.nsIn K mainGlobals "AbsentError" = some (some (.ref (Hx.gl K "AbsentError"))))
abbrev ck_20 (K : Hx.Fr) : Bool := decide (PySem.W.nsIn K mainGlobals "Contradiction" = some (some (.ref (Hx.gl K "Contradiction"))))
abbrev ck_21 (K : Hx.Fr) : Bool := decide (PySem.W.nsIn K mainGlobals "DifferentModes" = some (some (.ref (Hx.gl K "DifferentModes"))))
abbrev ck_22 (K : Hx.Fr) : Bool := decide (PySem.W.nsIn K mainGlobals "EchoError" = some (some (.ref (Hx.gl K "EchoError"))))
abbrev ck_23 (K : Hx.Fr) : Bool := decide (PySem.W.nsIn K mainGlobals "Finished" = some (some (.ref (Hx.gl K "Finished"))))
abbrev ck_24 (K : Hx.Fr) : Bool := decide (PySem.W.nsIn K mainGlobals "Full" = some (some (.ref (Hx.gl K "Full"))))
abbrev ck_25 (K : Hx.Fr) : Bool := decide (PySem.W.nsIn K mainGlobals "InvalidAccount" = some (some (.ref (Hx.gl K "InvalidAccount"))))
abbrev ck_26 (K : Hx.Fr) : Bool := decide (PySem.W.nsIn K mainGlobals "InvalidBound" = some (some (.ref (Hx.gl K "InvalidBound"))))
abbrev ck_27 (K : Hx.Fr) : Bool := decide (PySem.W.nsIn K mainGlobals "InvalidCapacity" = some (some (.ref (Hx.gl K "InvalidCapacity"))))
abbrev ck_28 (K : Hx.Fr) : Bool := decide (PySem.W.nsIn K mainGlobals "InvalidMode" = some (some (.ref (Hx.gl K "InvalidMode"))))
abbrev ck_29 (K : Hx.Fr) : Bool := decide (PySem.W.nsIn K mainGlobals "InvalidNumber" = some (some (.ref (Hx.gl K "InvalidNumber"))))
abbrev ck_30 (K : Hx.Fr) : Bool := decide (PySem.W.nsIn K mainGlobals "InvalidProgram" = some (some (.ref (Hx.gl K "InvalidProgram"))))
abbrev ck_31 (K : Hx.Fr) : Bool := decide (PySem.W.nsIn K mainGlobals "InvalidReading" = some (some (.ref (Hx.gl K "InvalidReading"))))
abbrev ck_32 (K : Hx.Fr) : Bool := decide (PySem.W.nsIn K mainGlobals "InvalidRow" = some (some (.ref (Hx.gl K "InvalidRow"))))
abbrev ck_33 (K : Hx.Fr) : Bool := decide (PySem.W.nsIn K mainGlobals "InvalidTable" = some (some (.ref (Hx.gl K "InvalidTable"))))
abbrev ck_34 (K : Hx.Fr) : Bool := decide (PySem.W.nsIn K mainGlobals "InvalidText" = some (some (.ref (Hx.gl K "InvalidText"))))
abbrev ck_35 (K : Hx.Fr) : Bool := decide (PySem.W.nsIn K mainGlobals "Lossy" = some (some (.ref (Hx.gl K "Lossy"))))
abbrev ck_36 (K : Hx.Fr) : Bool := decide (PySem.W.nsIn K mainGlobals "NoName" = some (some (.ref (Hx.gl K "NoName"))))
abbrev ck_37 (K : Hx.Fr) : Bool := decide (PySem.W.nsIn K mainGlobals "NoPlace" = some (some (.ref (Hx.gl K "NoPlace"))))
abbrev ck_38 (K : Hx.Fr) : Bool := decide (PySem.W.nsIn K mainGlobals "NoPoint" = some (some (.ref (Hx.gl K "NoPoint"))))
abbrev ck_39 (K : Hx.Fr) : Bool := decide (PySem.W.nsIn K mainGlobals "NoReading" = some (some (.ref (Hx.gl K "NoReading"))))
abbrev ck_40 (K : Hx.Fr) : Bool := decide (PySem.W.nsIn K mainGlobals "NothingToUndo" = some (some (.ref (Hx.gl K "NothingToUndo"))))
abbrev ck_41 (K : Hx.Fr) : Bool := decide (PySem.W.nsIn K mainGlobals "SizeError" = some (some (.ref (Hx.gl K "SizeError"))))
abbrev ck_42 (K : Hx.Fr) : Bool := decide (PySem.W.nsIn K mainGlobals "TooLarge" = some (some (.ref (Hx.gl K "TooLarge"))))
abbrev ck_43 (K : Hx.Fr) : Bool := decide (PySem.W.nsIn K mainGlobals "TooLong" = some (some (.ref (Hx.gl K "TooLong"))))
abbrev ck_44 (K : Hx.Fr) : Bool := decide (PySem.W.nsIn K mainGlobals "TooManyProcesses" = some (some (.ref (Hx.gl K "TooManyProcesses"))))
abbrev ck_45 (K : Hx.Fr) : Bool := decide (PySem.W.nsIn K mainGlobals "UnknownCommand" = some (some (.ref (Hx.gl K "UnknownCommand"))))
abbrev ck_46 (K : Hx.Fr) : Bool := Hx.xcOk K (Hx.gl K "InvalidRow") "ValueError.__new__"
abbrev ck_47 (K : Hx.Fr) : Bool := decide (PySem.W.excTail [.type "ValueError", .type "Exception", .type "BaseException", .type "object"] ((Hx.cdOf K (Hx.gl K "InvalidRow")).mro.tail) = true)
abbrev ck_48 (K : Hx.Fr) : Bool := decide (PySem.W.findIn K (.ref (Hx.gl K "InvalidRow")) "__setattr__" = some (some (.builtin "object.__setattr__")))
abbrev ck_49 (K : Hx.Fr) : Bool := decide (PySem.W.findIn K (.ref (Hx.gl K "InvalidRow")) "__init__" = some (some (.ref (Hx.me K (Hx.gl K "InvalidRow") "__init__"))))
abbrev ck_50 (K : Hx.Fr) : Bool := decide (PySem.W.typeIn K (.ref (Hx.me K (Hx.gl K "InvalidRow") "__init__")) = some (.type "function"))
abbrev ck_51 (K : Hx.Fr) : Bool := decide (PySem.W.findIn K (.ref (Hx.gl K "InvalidRow")) "index" = some none)
abbrev ck_52 (K : Hx.Fr) : Bool := decide (PySem.W.subIn K (.ref (Hx.gl K "InvalidRow")) (.type "BaseException") = some true)
abbrev ck_53 (K : Hx.Fr) : Bool := decide (PySem.W.typeIn K (.ref (Hx.gl K "InvalidRow")) = some (.type "type"))
abbrev ck_54 (K : Hx.Fr) : Bool := decide (PySem.W.keepIn K (.ref (Hx.gl K "InvalidRow")) = true)
abbrev ck_55 (K : Hx.Fr) : Bool := decide (PySem.W.specialIn K (.builtin "object.__class__") "__get__" = some (some (.builtin "getset_descriptor.__get__")))
abbrev ck_56 (K : Hx.Fr) : Bool := decide (PySem.W.takesIn K (.builtin "object.__class__") = some true)
abbrev ck_57 (K : Hx.Fr) : Bool := decide (PySem.W.subIn K (.ref (Hx.gl K "EchoError")) (.type "BaseException") = some true)
abbrev ck_58 (K : Hx.Fr) : Bool := decide (PySem.W.hasDictIn K (Hx.gl K "EchoError") = true)
abbrev ck_59 (K : Hx.Fr) : Bool := decide (PySem.W.typeIn K (.ref (Hx.gl K "EchoError")) = some (.type "type"))
abbrev ck_60 (K : Hx.Fr) : Bool := decide (PySem.W.subIn K (.ref (Hx.gl K "SizeError")) (.type "BaseException") = some true)
abbrev ck_61 (K : Hx.Fr) : Bool := decide (PySem.W.hasDictIn K (Hx.gl K "SizeError") = true)
abbrev ck_62 (K : Hx.Fr) : Bool := decide (PySem.W.typeIn K (.ref (Hx.gl K "SizeError")) = some (.type "type"))
abbrev ck_63 (K : Hx.Fr) : Bool := decide (PySem.W.subIn K (.ref (Hx.gl K "AbsentError")) (.type "BaseException") = some true)
abbrev ck_64 (K : Hx.Fr) : Bool := decide (PySem.W.hasDictIn K (Hx.gl K "AbsentError") = true)
abbrev ck_65 (K : Hx.Fr) : Bool := decide (PySem.W.typeIn K (.ref (Hx.gl K "AbsentError")) = some (.type "type"))
abbrev ck_66 (K : Hx.Fr) : Bool := decide (PySem.W.findIn K (.ref (Hx.gl K "InvalidRow")) "__getattribute__" = some (some (.builtin "BaseException.__getattribute__")))
abbrev ck_67 (K : Hx.Fr) : Bool := decide (PySem.W.findIn K (.ref (Hx.gl K "InvalidRow")) "__getattr__" = some none)
abbrev ck_68 (K : Hx.Fr) : Bool := decide (PySem.W.hasDictIn K (Hx.gl K "InvalidRow") = true)
abbrev ck_69 (K : Hx.Fr) : Bool := decide (PySem.W.findIn K (.ref (Hx.gl K "InvalidRow")) "__class__" = some (some (.builtin "object.__class__")))
abbrev ck_70 (K : Hx.Fr) : Bool := decide (PySem.W.mroIn K (Hx.gl K "InvalidRow") (.type "object") = some true)
abbrev ck_71 (K : Hx.Fr) : Bool := decide (PySem.W.subIn K (.ref (Hx.gl K "InvalidRow")) (.ref (Hx.gl K "EchoError")) = some true)
abbrev ck_72 (K : Hx.Fr) : Bool := decide (PySem.W.subIn K (.ref (Hx.gl K "InvalidRow")) (.ref (Hx.gl K "SizeError")) = some false)
abbrev ck_73 (K : Hx.Fr) : Bool := decide (PySem.W.subIn K (.ref (Hx.gl K "InvalidRow")) (.ref (Hx.gl K "AbsentError")) = some false)
abbrev ck_74 (K : Hx.Fr) : Bool := decide (PySem.W.kitOne K (.ref (Hx.gl K "InvalidRow")) (.ref (Hx.gl K "AbsentError")) = some false)
abbrev ck_75 (K : Hx.Fr) : Bool := decide (PySem.W.kitOne K (.ref (Hx.gl K "InvalidRow")) (.ref (Hx.gl K "Contradiction")) = some false)
abbrev ck_76 (K : Hx.Fr) : Bool := decide (PySem.W.kitOne K (.ref (Hx.gl K "InvalidRow")) (.ref (Hx.gl K "DifferentModes")) = some false)
abbrev ck_77 (K : Hx.Fr) : Bool := decide (PySem.W.kitOne K (.ref (Hx.gl K "InvalidRow")) (.ref (Hx.gl K "EchoError")) = some true)
abbrev ck_78 (K : Hx.Fr) : Bool := decide (PySem.W.kitOne K (.ref (Hx.gl K "InvalidRow")) (.ref (Hx.gl K "Finished")) = some false)
abbrev ck_79 (K : Hx.Fr) : Bool := decide (PySem.W.kitOne K (.ref (Hx.gl K "InvalidRow")) (.ref (Hx.gl K "Full")) = some false)
abbrev ck_80 (K : Hx.Fr) : Bool := decide (PySem.W.kitOne K (.ref (Hx.gl K "InvalidRow")) (.ref (Hx.gl K "InvalidAccount")) = some false)
abbrev ck_81 (K : Hx.Fr) : Bool := decide (PySem.W.kitOne K (.ref (Hx.gl K "InvalidRow")) (.ref (Hx.gl K "InvalidBound")) = some false)
abbrev ck_82 (K : Hx.Fr) : Bool := decide (PySem.W.kitOne K (.ref (Hx.gl K "InvalidRow")) (.ref (Hx.gl K "InvalidCapacity")) = some false)
abbrev ck_83 (K : Hx.Fr) : Bool := decide (PySem.W.kitOne K (.ref (Hx.gl K "InvalidRow")) (.ref (Hx.gl K "InvalidMode")) = some false)
abbrev ck_84 (K : Hx.Fr) : Bool := decide (PySem.W.kitOne K (.ref (Hx.gl K "InvalidRow")) (.ref (Hx.gl K "InvalidNumber")) = some false)
abbrev ck_85 (K : Hx.Fr) : Bool := decide (PySem.W.kitOne K (.ref (Hx.gl K "InvalidRow")) (.ref (Hx.gl K "InvalidProgram")) = some false)
abbrev ck_86 (K : Hx.Fr) : Bool := decide (PySem.W.kitOne K (.ref (Hx.gl K "InvalidRow")) (.ref (Hx.gl K "InvalidReading")) = some false)
abbrev ck_87 (K : Hx.Fr) : Bool := decide (PySem.W.kitOne K (.ref (Hx.gl K "InvalidRow")) (.ref (Hx.gl K "InvalidRow")) = some true)
abbrev ck_88 (K : Hx.Fr) : Bool := decide (PySem.W.kitOne K (.ref (Hx.gl K "InvalidRow")) (.ref (Hx.gl K "InvalidTable")) = some false)
abbrev ck_89 (K : Hx.Fr) : Bool := decide (PySem.W.kitOne K (.ref (Hx.gl K "InvalidRow")) (.ref (Hx.gl K "InvalidText")) = some false)
abbrev ck_90 (K : Hx.Fr) : Bool := decide (PySem.W.kitOne K (.ref (Hx.gl K "InvalidRow")) (.type "LookupError") = some false)
abbrev ck_91 (K : Hx.Fr) : Bool := decide (PySem.W.kitOne K (.ref (Hx.gl K "InvalidRow")) (.ref (Hx.gl K "Lossy")) = some false)
abbrev ck_92 (K : Hx.Fr) : Bool := decide (PySem.W.kitOne K (.ref (Hx.gl K "InvalidRow")) (.ref (Hx.gl K "NoName")) = some false)
abbrev ck_93 (K : Hx.Fr) : Bool := decide (PySem.W.kitOne K (.ref (Hx.gl K "InvalidRow")) (.ref (Hx.gl K "NoPlace")) = some false)
abbrev ck_94 (K : Hx.Fr) : Bool := decide (PySem.W.kitOne K (.ref (Hx.gl K "InvalidRow")) (.ref (Hx.gl K "NoPoint")) = some false)
abbrev ck_95 (K : Hx.Fr) : Bool := decide (PySem.W.kitOne K (.ref (Hx.gl K "InvalidRow")) (.ref (Hx.gl K "NoReading")) = some false)
abbrev ck_96 (K : Hx.Fr) : Bool := decide (PySem.W.kitOne K (.ref (Hx.gl K "InvalidRow")) (.ref (Hx.gl K "NothingToUndo")) = some false)
abbrev ck_97 (K : Hx.Fr) : Bool := decide (PySem.W.kitOne K (.ref (Hx.gl K "InvalidRow")) (.type "OverflowError") = some false)
abbrev ck_98 (K : Hx.Fr) : Bool := decide (PySem.W.kitOne K (.ref (Hx.gl K "InvalidRow")) (.ref (Hx.gl K "SizeError")) = some false)
abbrev ck_99 (K : Hx.Fr) : Bool := decide (PySem.W.kitOne K (.ref (Hx.gl K "InvalidRow")) (.ref (Hx.gl K "TooLarge")) = some false)
abbrev ck_100 (K : Hx.Fr) : Bool := decide (PySem.W.kitOne K (.ref (Hx.gl K "InvalidRow")) (.ref (Hx.gl K "TooLong")) = some false)
abbrev ck_101 (K : Hx.Fr) : Bool := decide (PySem.W.kitOne K (.ref (Hx.gl K "InvalidRow")) (.ref (Hx.gl K "TooManyProcesses")) = some false)
abbrev ck_102 (K : Hx.Fr) : Bool := decide (PySem.W.kitOne K (.ref (Hx.gl K "InvalidRow")) (.ref (Hx.gl K "UnknownCommand")) = some false)
abbrev ck_103 (K : Hx.Fr) : Bool := decide (PySem.W.kitOne K (.ref (Hx.gl K "InvalidRow")) (.type "ValueError") = some true)
abbrev ck_104 (K : Hx.Fr) : Bool := decide (PySem.W.findIn K (.ref (Hx.gl K "InvalidRow")) "index" = some none)
abbrev ck_105 (K : Hx.Fr) : Bool := decide (PySem.W.specialIn K (.builtin "object.__class__") "__get__" = some (some (.builtin "getset_descriptor.__get__")))
abbrev ck_106 (K : Hx.Fr) : Bool := decide (PySem.W.takesIn K (.builtin "object.__class__") = some true)
abbrev ck_107 (K : Hx.Fr) : Bool := decide (PySem.W.findIn K (.ref (Hx.gl K "Ledger")) "__class__" = some (some (.builtin "object.__class__")))
abbrev ck_108 (K : Hx.Fr) : Bool := decide (PySem.W.mroIn K (Hx.gl K "Ledger") (.type "object") = some true)
abbrev ck_109 (K : Hx.Fr) : Bool := decide (PySem.W.kitOne K (.ref (Hx.gl K "Ledger")) (.ref (Hx.gl K "Ledger")) = some true)
abbrev ck_110 (K : Hx.Fr) : Bool := decide (PySem.W.kitOne K (.type "NoneType") (.ref (Hx.gl K "Ledger")) = some false)
abbrev ck_111 (K : Hx.Fr) : Bool := decide (PySem.W.kitOne K (.type "bool") (.ref (Hx.gl K "Ledger")) = some false)
abbrev ck_112 (K : Hx.Fr) : Bool := decide (PySem.W.kitOne K (.type "int") (.ref (Hx.gl K "Ledger")) = some false)
abbrev ck_113 (K : Hx.Fr) : Bool := decide (PySem.W.kitOne K (.type "str") (.ref (Hx.gl K "Ledger")) = some false)
abbrev ck_114 (K : Hx.Fr) : Bool := decide (PySem.W.kitOne K (.type "tuple") (.ref (Hx.gl K "Ledger")) = some false)
abbrev ck_115 (K : Hx.Fr) : Bool := decide (PySem.W.kitOne K (.type "list") (.ref (Hx.gl K "Ledger")) = some false)
abbrev ck_116 (K : Hx.Fr) : Bool := decide (PySem.W.kitOne K (.type "dict") (.ref (Hx.gl K "Ledger")) = some false)
abbrev ck_117 (K : Hx.Fr) : Bool := decide (PySem.W.nsIn K mainGlobals "is_integer" = some (some (.ref (Hx.gl K "is_integer"))))
abbrev ck_118 (K : Hx.Fr) : Bool := decide (PySem.W.codeIn K (Hx.fv (·.code) K (Hx.gl K "is_integer")) "is_integer" = true)
abbrev ck_119 (K : Hx.Fr) : Bool := decide (PySem.W.keepIn K (.ref (Hx.gl K "is_integer")) = true)
abbrev ck_120 (K : Hx.Fr) : Bool := decide (PySem.W.nsIn K mainGlobals "is_between" = some (some (.ref (Hx.gl K "is_between"))))
abbrev ck_121 (K : Hx.Fr) : Bool := decide (PySem.W.codeIn K (Hx.fv (·.code) K (Hx.gl K "is_between")) "is_between" = true)
abbrev ck_122 (K : Hx.Fr) : Bool := decide (PySem.W.keepIn K (.ref (Hx.gl K "is_between")) = true)
abbrev ck_123 (K : Hx.Fr) : Bool := decide (PySem.W.nsIn K mainGlobals "is_row" = some (some (.ref (Hx.gl K "is_row"))))
abbrev ck_124 (K : Hx.Fr) : Bool := decide (PySem.W.codeIn K (Hx.fv (·.code) K (Hx.gl K "is_row")) "is_row" = true)
abbrev ck_125 (K : Hx.Fr) : Bool := decide (PySem.W.keepIn K (.ref (Hx.gl K "is_row")) = true)
abbrev ck_126 (K : Hx.Fr) : Bool := decide (PySem.W.findIn K (.ref (Hx.gl K "Ledger")) "__init__" = some (some (.ref (Hx.me K (Hx.gl K "Ledger") "__init__"))))
abbrev ck_127 (K : Hx.Fr) : Bool := decide (PySem.W.isFn K (.ref (Hx.me K (Hx.gl K "Ledger") "__init__")) = true)
abbrev ck_128 (K : Hx.Fr) : Bool := decide (PySem.W.fnIn K (Hx.me K (Hx.gl K "Ledger") "__init__") = true)
abbrev ck_129 (K : Hx.Fr) : Bool := decide (PySem.W.codeIn K (Hx.fv (·.code) K (Hx.me K (Hx.gl K "Ledger") "__init__")) "Ledger.__init__" = true)
abbrev ck_130 (K : Hx.Fr) : Bool := decide (PySem.W.keepIn K (.ref (Hx.me K (Hx.gl K "Ledger") "__init__")) = true)
abbrev ck_131 (K : Hx.Fr) : Bool := decide (PySem.W.findIn K (.ref (Hx.gl K "Ledger")) "rows" = some (some (.ref (Hx.me K (Hx.gl K "Ledger") "rows"))))
abbrev ck_132 (K : Hx.Fr) : Bool := decide (PySem.W.specialIn K (.ref (Hx.me K (Hx.gl K "Ledger") "rows")) "__get__" = some (some (.builtin "property.__get__")))
abbrev ck_133 (K : Hx.Fr) : Bool := decide (PySem.W.takesIn K (.ref (Hx.me K (Hx.gl K "Ledger") "rows")) = some true)
abbrev ck_134 (K : Hx.Fr) : Bool := decide (PySem.W.recIn K (Hx.me K (Hx.gl K "Ledger") "rows") "property" = some (.ref (Hx.rh K (Hx.me K (Hx.gl K "Ledger") "rows") "property") :: (Hx.rt K (Hx.me K (Hx.gl K "Ledger") "rows") "property")))
abbrev ck_135 (K : Hx.Fr) : Bool := decide (PySem.W.codeIn K (Hx.fv (·.code) K (Hx.rh K (Hx.me K (Hx.gl K "Ledger") "rows") "property")) "Ledger.rows" = true)
abbrev ck_136 (K : Hx.Fr) : Bool := decide (PySem.W.keepIn K (.ref (Hx.rh K (Hx.me K (Hx.gl K "Ledger") "rows") "property")) = true)
abbrev ck_137 (K : Hx.Fr) : Bool := decide (PySem.W.findIn K (.ref (Hx.gl K "Ledger")) "greatest" = some (some (.ref (Hx.me K (Hx.gl K "Ledger") "greatest"))))
abbrev ck_138 (K : Hx.Fr) : Bool := decide (PySem.W.specialIn K (.ref (Hx.me K (Hx.gl K "Ledger") "greatest")) "__get__" = some (some (.builtin "property.__get__")))
abbrev ck_139 (K : Hx.Fr) : Bool := decide (PySem.W.takesIn K (.ref (Hx.me K (Hx.gl K "Ledger") "greatest")) = some true)
abbrev ck_140 (K : Hx.Fr) : Bool := decide (PySem.W.recIn K (Hx.me K (Hx.gl K "Ledger") "greatest") "property" = some (.ref (Hx.rh K (Hx.me K (Hx.gl K "Ledger") "greatest") "property") :: (Hx.rt K (Hx.me K (Hx.gl K "Ledger") "greatest") "property")))
abbrev ck_141 (K : Hx.Fr) : Bool := decide (PySem.W.codeIn K (Hx.fv (·.code) K (Hx.rh K (Hx.me K (Hx.gl K "Ledger") "greatest") "property")) "Ledger.greatest" = true)
abbrev ck_142 (K : Hx.Fr) : Bool := decide (PySem.W.keepIn K (.ref (Hx.rh K (Hx.me K (Hx.gl K "Ledger") "greatest") "property")) = true)
abbrev ck_143 (K : Hx.Fr) : Bool := decide (PySem.W.findIn K (.ref (Hx.gl K "Ledger")) "__getitem__" = some (some (.ref (Hx.me K (Hx.gl K "Ledger") "__getitem__"))))
abbrev ck_144 (K : Hx.Fr) : Bool := decide (PySem.W.isFn K (.ref (Hx.me K (Hx.gl K "Ledger") "__getitem__")) = true)
abbrev ck_145 (K : Hx.Fr) : Bool := decide (PySem.W.fnIn K (Hx.me K (Hx.gl K "Ledger") "__getitem__") = true)
abbrev ck_146 (K : Hx.Fr) : Bool := decide (PySem.W.codeIn K (Hx.fv (·.code) K (Hx.me K (Hx.gl K "Ledger") "__getitem__")) "Ledger.__getitem__" = true)
abbrev ck_147 (K : Hx.Fr) : Bool := decide (PySem.W.keepIn K (.ref (Hx.me K (Hx.gl K "Ledger") "__getitem__")) = true)
abbrev ck_148 (K : Hx.Fr) : Bool := decide (PySem.W.findIn K (.ref (Hx.gl K "Ledger")) "__contains__" = some (some (.ref (Hx.me K (Hx.gl K "Ledger") "__contains__"))))
abbrev ck_149 (K : Hx.Fr) : Bool := decide (PySem.W.isFn K (.ref (Hx.me K (Hx.gl K "Ledger") "__contains__")) = true)
abbrev ck_150 (K : Hx.Fr) : Bool := decide (PySem.W.fnIn K (Hx.me K (Hx.gl K "Ledger") "__contains__") = true)
abbrev ck_151 (K : Hx.Fr) : Bool := decide (PySem.W.codeIn K (Hx.fv (·.code) K (Hx.me K (Hx.gl K "Ledger") "__contains__")) "Ledger.__contains__" = true)
abbrev ck_152 (K : Hx.Fr) : Bool := decide (PySem.W.keepIn K (.ref (Hx.me K (Hx.gl K "Ledger") "__contains__")) = true)
abbrev ck_153 (K : Hx.Fr) : Bool := decide (PySem.W.findIn K (.ref (Hx.gl K "Ledger")) "__len__" = some (some (.ref (Hx.me K (Hx.gl K "Ledger") "__len__"))))
abbrev ck_154 (K : Hx.Fr) : Bool := decide (PySem.W.isFn K (.ref (Hx.me K (Hx.gl K "Ledger") "__len__")) = true)
abbrev ck_155 (K : Hx.Fr) : Bool := decide (PySem.W.fnIn K (Hx.me K (Hx.gl K "Ledger") "__len__") = true)
abbrev ck_156 (K : Hx.Fr) : Bool := decide (PySem.W.codeIn K (Hx.fv (·.code) K (Hx.me K (Hx.gl K "Ledger") "__len__")) "Ledger.__len__" = true)
abbrev ck_157 (K : Hx.Fr) : Bool := decide (PySem.W.keepIn K (.ref (Hx.me K (Hx.gl K "Ledger") "__len__")) = true)
abbrev ck_158 (K : Hx.Fr) : Bool := decide (PySem.W.findIn K (.ref (Hx.gl K "Ledger")) "__add__" = some (some (.ref (Hx.me K (Hx.gl K "Ledger") "__add__"))))
abbrev ck_159 (K : Hx.Fr) : Bool := decide (PySem.W.isFn K (.ref (Hx.me K (Hx.gl K "Ledger") "__add__")) = true)
abbrev ck_160 (K : Hx.Fr) : Bool := decide (PySem.W.fnIn K (Hx.me K (Hx.gl K "Ledger") "__add__") = true)
abbrev ck_161 (K : Hx.Fr) : Bool := decide (PySem.W.codeIn K (Hx.fv (·.code) K (Hx.me K (Hx.gl K "Ledger") "__add__")) "Ledger.__add__" = true)
abbrev ck_162 (K : Hx.Fr) : Bool := decide (PySem.W.keepIn K (.ref (Hx.me K (Hx.gl K "Ledger") "__add__")) = true)
abbrev ck_163 (K : Hx.Fr) : Bool := decide (PySem.W.findIn K (.ref (Hx.gl K "Ledger")) "__eq__" = some (some (.ref (Hx.me K (Hx.gl K "Ledger") "__eq__"))))
abbrev ck_164 (K : Hx.Fr) : Bool := decide (PySem.W.isFn K (.ref (Hx.me K (Hx.gl K "Ledger") "__eq__")) = true)
abbrev ck_165 (K : Hx.Fr) : Bool := decide (PySem.W.fnIn K (Hx.me K (Hx.gl K "Ledger") "__eq__") = true)
abbrev ck_166 (K : Hx.Fr) : Bool := decide (PySem.W.codeIn K (Hx.fv (·.code) K (Hx.me K (Hx.gl K "Ledger") "__eq__")) "Ledger.__eq__" = true)
abbrev ck_167 (K : Hx.Fr) : Bool := decide (PySem.W.keepIn K (.ref (Hx.me K (Hx.gl K "Ledger") "__eq__")) = true)
abbrev ck_168 (K : Hx.Fr) : Bool := decide (PySem.W.findIn K (.ref (Hx.gl K "Ledger")) "__repr__" = some (some (.ref (Hx.me K (Hx.gl K "Ledger") "__repr__"))))
abbrev ck_169 (K : Hx.Fr) : Bool := decide (PySem.W.isFn K (.ref (Hx.me K (Hx.gl K "Ledger") "__repr__")) = true)
abbrev ck_170 (K : Hx.Fr) : Bool := decide (PySem.W.fnIn K (Hx.me K (Hx.gl K "Ledger") "__repr__") = true)
abbrev ck_171 (K : Hx.Fr) : Bool := decide (PySem.W.codeIn K (Hx.fv (·.code) K (Hx.me K (Hx.gl K "Ledger") "__repr__")) "Ledger.__repr__" = true)
abbrev ck_172 (K : Hx.Fr) : Bool := decide (PySem.W.keepIn K (.ref (Hx.me K (Hx.gl K "Ledger") "__repr__")) = true)
abbrev ck_173 (K : Hx.Fr) : Bool := decide (PySem.W.nsIn K mainGlobals "_law_pen" = some (some (.ref (Hx.gl K "_law_pen"))))
abbrev ck_174 (K : Hx.Fr) : Bool := decide (PySem.W.codeIn K (Hx.fv (·.code) K (Hx.gl K "_law_pen")) "_law_pen" = true)
abbrev ck_175 (K : Hx.Fr) : Bool := decide (PySem.W.keepIn K (.ref (Hx.gl K "_law_pen")) = true)
abbrev ck_176 (K : Hx.Fr) : Bool := decide (PySem.W.nsIn K mainGlobals "_law_draw" = some (some (.ref (Hx.gl K "_law_draw"))))
abbrev ck_177 (K : Hx.Fr) : Bool := decide (PySem.W.codeIn K (Hx.fv (·.code) K (Hx.gl K "_law_draw")) "_law_draw" = true)
abbrev ck_178 (K : Hx.Fr) : Bool := decide (PySem.W.keepIn K (.ref (Hx.gl K "_law_draw")) = true)
abbrev ck_179 (K : Hx.Fr) : Bool := decide (PySem.W.nsIn K mainGlobals "_law_word" = some (some (.ref (Hx.gl K "_law_word"))))
abbrev ck_180 (K : Hx.Fr) : Bool := decide (PySem.W.codeIn K (Hx.fv (·.code) K (Hx.gl K "_law_word")) "_law_word" = true)
abbrev ck_181 (K : Hx.Fr) : Bool := decide (PySem.W.keepIn K (.ref (Hx.gl K "_law_word")) = true)
abbrev ck_182 (K : Hx.Fr) : Bool := decide (PySem.W.nsIn K mainGlobals "_law_field" = some (some (.ref (Hx.gl K "_law_field"))))
abbrev ck_183 (K : Hx.Fr) : Bool := decide (PySem.W.codeIn K (Hx.fv (·.code) K (Hx.gl K "_law_field")) "_law_field" = true)
abbrev ck_184 (K : Hx.Fr) : Bool := decide (PySem.W.keepIn K (.ref (Hx.gl K "_law_field")) = true)
abbrev ck_185 (K : Hx.Fr) : Bool := decide (PySem.W.nsIn K mainGlobals "_law_more_field" = some (some (.ref (Hx.gl K "_law_more_field"))))
abbrev ck_186 (K : Hx.Fr) : Bool := decide (PySem.W.codeIn K (Hx.fv (·.code) K (Hx.gl K "_law_more_field")) "_law_more_field" = true)
abbrev ck_187 (K : Hx.Fr) : Bool := decide (PySem.W.keepIn K (.ref (Hx.gl K "_law_more_field")) = true)
abbrev ck_188 (K : Hx.Fr) : Bool := decide (PySem.W.nsIn K mainGlobals "_law_heard" = some (some (.ref (Hx.gl K "_law_heard"))))
abbrev ck_189 (K : Hx.Fr) : Bool := decide (PySem.W.codeIn K (Hx.fv (·.code) K (Hx.gl K "_law_heard")) "_law_heard" = true)
abbrev ck_190 (K : Hx.Fr) : Bool := decide (PySem.W.keepIn K (.ref (Hx.gl K "_law_heard")) = true)
abbrev ck_191 (K : Hx.Fr) : Bool := decide (PySem.W.nsIn K mainGlobals "_law_offset" = some (some (.ref (Hx.gl K "_law_offset"))))
abbrev ck_192 (K : Hx.Fr) : Bool := decide (PySem.W.codeIn K (Hx.fv (·.code) K (Hx.gl K "_law_offset")) "_law_offset" = true)
abbrev ck_193 (K : Hx.Fr) : Bool := decide (PySem.W.keepIn K (.ref (Hx.gl K "_law_offset")) = true)
abbrev ck_194 (K : Hx.Fr) : Bool := decide (PySem.W.nsIn K mainGlobals "_law_amount" = some (some (.ref (Hx.gl K "_law_amount"))))
abbrev ck_195 (K : Hx.Fr) : Bool := decide (PySem.W.codeIn K (Hx.fv (·.code) K (Hx.gl K "_law_amount")) "_law_amount" = true)
abbrev ck_196 (K : Hx.Fr) : Bool := decide (PySem.W.keepIn K (.ref (Hx.gl K "_law_amount")) = true)
abbrev ck_197 (K : Hx.Fr) : Bool := decide (PySem.W.nsIn K mainGlobals "_law_rows" = some (some (.ref (Hx.gl K "_law_rows"))))
abbrev ck_198 (K : Hx.Fr) : Bool := decide (PySem.W.codeIn K (Hx.fv (·.code) K (Hx.gl K "_law_rows")) "_law_rows" = true)
abbrev ck_199 (K : Hx.Fr) : Bool := decide (PySem.W.keepIn K (.ref (Hx.gl K "_law_rows")) = true)
abbrev ck_200 (K : Hx.Fr) : Bool := decide (PySem.W.nsIn K mainGlobals "_law_sums" = some (some (.ref (Hx.gl K "_law_sums"))))
abbrev ck_201 (K : Hx.Fr) : Bool := decide (PySem.W.codeIn K (Hx.fv (·.code) K (Hx.gl K "_law_sums")) "_law_sums" = true)
abbrev ck_202 (K : Hx.Fr) : Bool := decide (PySem.W.keepIn K (.ref (Hx.gl K "_law_sums")) = true)
abbrev ck_203 (K : Hx.Fr) : Bool := decide (PySem.W.nsIn K mainGlobals "_law_ledger" = some (some (.ref (Hx.gl K "_law_ledger"))))
abbrev ck_204 (K : Hx.Fr) : Bool := decide (PySem.W.codeIn K (Hx.fv (·.code) K (Hx.gl K "_law_ledger")) "_law_ledger" = true)
abbrev ck_205 (K : Hx.Fr) : Bool := decide (PySem.W.keepIn K (.ref (Hx.gl K "_law_ledger")) = true)
abbrev ck_206 (K : Hx.Fr) : Bool := decide (PySem.W.nsIn K mainGlobals "_law_odd" = some (some (.ref (Hx.gl K "_law_odd"))))
abbrev ck_207 (K : Hx.Fr) : Bool := decide (PySem.W.codeIn K (Hx.fv (·.code) K (Hx.gl K "_law_odd")) "_law_odd" = true)
abbrev ck_208 (K : Hx.Fr) : Bool := decide (PySem.W.keepIn K (.ref (Hx.gl K "_law_odd")) = true)
abbrev ck_209 (K : Hx.Fr) : Bool := decide (PySem.W.nsIn K mainGlobals "_law_refused_right" = some (some (.ref (Hx.gl K "_law_refused_right"))))
abbrev ck_210 (K : Hx.Fr) : Bool := decide (Hx.fv (·.code) K (Hx.gl K "_law_refused_right") = .ref (Hx.cA K (Hx.gl K "_law_refused_right")))
abbrev ck_211 (K : Hx.Fr) : Bool := decide (PySem.W.codeIn K (.ref (Hx.cA K (Hx.gl K "_law_refused_right"))) "_law_refused_right" = true)
abbrev ck_212 (K : Hx.Fr) : Bool := decide (PySem.W.keepIn K (.ref (Hx.gl K "_law_refused_right")) = true)
abbrev ck_213 (K : Hx.Fr) : Bool := Hx.flOk K (Hx.cA K (Hx.gl K "_law_refused_right"))
abbrev ck_214 (K : Hx.Fr) : Bool := decide ((Hx.fl K (Hx.cA K (Hx.gl K "_law_refused_right")))[11]? = some (.ref (Hx.r11 K (Hx.cA K (Hx.gl K "_law_refused_right")))))
abbrev ck_215 (K : Hx.Fr) : Bool := (K.lookup (Hx.r11 K (Hx.cA K (Hx.gl K "_law_refused_right")))).isNone
abbrev ck_216 (K : Hx.Fr) : Bool := decide (PySem.W.nsIn K mainGlobals "_law_told_right" = some (some (.ref (Hx.gl K "_law_told_right"))))
abbrev ck_217 (K : Hx.Fr) : Bool := decide (PySem.W.codeIn K (Hx.fv (·.code) K (Hx.gl K "_law_told_right")) "_law_told_right" = true)
abbrev ck_218 (K : Hx.Fr) : Bool := decide (PySem.W.keepIn K (.ref (Hx.gl K "_law_told_right")) = true)
abbrev ck_219 (K : Hx.Fr) : Bool := decide (PySem.W.nsIn K mainGlobals "_law_alike_right" = some (some (.ref (Hx.gl K "_law_alike_right"))))
abbrev ck_220 (K : Hx.Fr) : Bool := decide (PySem.W.codeIn K (Hx.fv (·.code) K (Hx.gl K "_law_alike_right")) "_law_alike_right" = true)
abbrev ck_221 (K : Hx.Fr) : Bool := decide (PySem.W.keepIn K (.ref (Hx.gl K "_law_alike_right")) = true)
abbrev ck_222 (K : Hx.Fr) : Bool := decide (PySem.W.nsIn K mainGlobals "_law_long_right" = some (some (.ref (Hx.gl K "_law_long_right"))))
abbrev ck_223 (K : Hx.Fr) : Bool := decide (Hx.fv (·.code) K (Hx.gl K "_law_long_right") = .ref (Hx.cA K (Hx.gl K "_law_long_right")))
abbrev ck_224 (K : Hx.Fr) : Bool := decide (PySem.W.codeIn K (.ref (Hx.cA K (Hx.gl K "_law_long_right"))) "_law_long_right" = true)
abbrev ck_225 (K : Hx.Fr) : Bool := decide (PySem.W.keepIn K (.ref (Hx.gl K "_law_long_right")) = true)
abbrev ck_226 (K : Hx.Fr) : Bool := Hx.flOk K (Hx.cA K (Hx.gl K "_law_long_right"))
abbrev ck_227 (K : Hx.Fr) : Bool := decide ((Hx.fl K (Hx.cA K (Hx.gl K "_law_long_right")))[11]? = some (.ref (Hx.r11 K (Hx.cA K (Hx.gl K "_law_long_right")))))
abbrev ck_228 (K : Hx.Fr) : Bool := (K.lookup (Hx.r11 K (Hx.cA K (Hx.gl K "_law_long_right")))).isNone
abbrev ck_229 (K : Hx.Fr) : Bool := decide (PySem.W.nsIn K mainGlobals "law" = some (some (.ref (Hx.gl K "law"))))
abbrev ck_230 (K : Hx.Fr) : Bool := decide (PySem.W.codeIn K (Hx.fv (·.code) K (Hx.gl K "law")) "law" = true)
abbrev ck_231 (K : Hx.Fr) : Bool := decide (PySem.W.keepIn K (.ref (Hx.gl K "law")) = true)
abbrev ck_232 (K : Hx.Fr) : Bool := decide (PySem.W.codeIn K (Hx.fv (·.code) K (Hx.me K (Hx.gl K "InvalidRow") "__init__")) "InvalidRow.__init__" = true)
abbrev ck_233 (K : Hx.Fr) : Bool := decide (PySem.W.keepIn K (.ref (Hx.me K (Hx.gl K "InvalidRow") "__init__")) = true)
abbrev ck_234 (K : Hx.Fr) : Bool := decide ([(Hx.r11 K (Hx.cA K (Hx.gl K "_law_refused_right"))), (Hx.r11 K (Hx.cA K (Hx.gl K "_law_long_right")))].Nodup)
abbrev ck_235 (K : Hx.Fr) : Bool := decide (PySem.W.nsIn K mainGlobals "LookupError" = some none)
abbrev ck_236 (K : Hx.Fr) : Bool := decide (PySem.W.nsIn K mainGlobals "OverflowError" = some none)
abbrev ck_237 (K : Hx.Fr) : Bool := decide (PySem.W.nsIn K mainGlobals "ValueError" = some none)
abbrev ck_238 (K : Hx.Fr) : Bool := decide (PySem.W.nsIn K mainGlobals "abs" = some none)
abbrev ck_239 (K : Hx.Fr) : Bool := decide (PySem.W.nsIn K mainGlobals "bool" = some none)
abbrev ck_240 (K : Hx.Fr) : Bool := decide (PySem.W.nsIn K mainGlobals "dict" = some none)
abbrev ck_241 (K : Hx.Fr) : Bool := decide (PySem.W.nsIn K mainGlobals "enumerate" = some none)
abbrev ck_242 (K : Hx.Fr) : Bool := decide (PySem.W.nsIn K mainGlobals "int" = some none)
abbrev ck_243 (K : Hx.Fr) : Bool := decide (PySem.W.nsIn K mainGlobals "isinstance" = some none)
abbrev ck_244 (K : Hx.Fr) : Bool := decide (PySem.W.nsIn K mainGlobals "len" = some none)
abbrev ck_245 (K : Hx.Fr) : Bool := decide (PySem.W.nsIn K mainGlobals "list" = some none)
abbrev ck_246 (K : Hx.Fr) : Bool := decide (PySem.W.nsIn K mainGlobals "max" = some none)
abbrev ck_247 (K : Hx.Fr) : Bool := decide (PySem.W.nsIn K mainGlobals "range" = some none)
abbrev ck_248 (K : Hx.Fr) : Bool := decide (PySem.W.nsIn K mainGlobals "repr" = some none)
abbrev ck_249 (K : Hx.Fr) : Bool := decide (PySem.W.nsIn K mainGlobals "sorted" = some none)
abbrev ck_250 (K : Hx.Fr) : Bool := decide (PySem.W.nsIn K mainGlobals "str" = some none)
abbrev ck_251 (K : Hx.Fr) : Bool := decide (PySem.W.nsIn K mainGlobals "tuple" = some none)
abbrev ck_252 (K : Hx.Fr) : Bool := decide (PySem.W.nsIn K mainGlobals "MOST_OFFSET" = some (some (Value.int 1000000 (Hx.tk (PySem.W.nsIn K mainGlobals "MOST_OFFSET")))))
noncomputable def cks_0 : List (Hx.Fr → Bool) := [ck_0, ck_1, ck_2, ck_3, ck_4, ck_5, ck_6, ck_7, ck_8, ck_9, ck_10, ck_11, ck_12, ck_13, ck_14, ck_15, ck_16, ck_17, ck_18, ck_19, ck_20, ck_21, ck_22, ck_23, ck_24, ck_25, ck_26, ck_27, ck_28, ck_29, ck_30, ck_31, ck_32, ck_33, ck_34, ck_35, ck_36, ck_37, ck_38, ck_39]
noncomputable def cks_1 : List (Hx.Fr → Bool) := [ck_40, ck_41, ck_42, ck_43, ck_44, ck_45, ck_46, ck_47, ck_48, ck_49, ck_50, ck_51, ck_52, ck_53, ck_54, ck_55, ck_56, ck_57, ck_58, ck_59, ck_60, ck_61, ck_62, ck_63, ck_64, ck_65, ck_66, ck_67, ck_68, ck_69, ck_70, ck_71, ck_72, ck_73, ck_74, ck_75, ck_76, ck_77, ck_78, ck_79]
noncomputable def cks_2 : List (Hx.Fr → Bool) := [ck_80, ck_81, ck_82, ck_83, ck_84, ck_85, ck_86, ck_87, ck_88, ck_89, ck_90, ck_91, ck_92, ck_93, ck_94, ck_95, ck_96, ck_97, ck_98, ck_99, ck_100, ck_101, ck_102, ck_103, ck_104, ck_105, ck_106, ck_107, ck_108, ck_109, ck_110, ck_111, ck_112, ck_113, ck_114, ck_115, ck_116, ck_117, ck_118, ck_119]
noncomputable def cks_3 : List (Hx.Fr → Bool) := [ck_120, ck_121, ck_122, ck_123, ck_124, ck_125, ck_126, ck_127, ck_128, ck_129, ck_130, ck_131, ck_132, ck_133, ck_134, ck_135, ck_136, ck_137, ck_138, ck_139, ck_140, ck_141, ck_142, ck_143, ck_144, ck_145, ck_146, ck_147, ck_148, ck_149, ck_150, ck_151, ck_152, ck_153, ck_154, ck_155, ck_156, ck_157, ck_158, ck_159]
noncomputable def cks_4 : List (Hx.Fr → Bool) := [ck_160, ck_161, ck_162, ck_163, ck_164, ck_165, ck_166, ck_167, ck_168, ck_169, ck_170, ck_171, ck_172, ck_173, ck_174, ck_175, ck_176, ck_177, ck_178, ck_179, ck_180, ck_181, ck_182, ck_183, ck_184, ck_185, ck_186, ck_187, ck_188, ck_189, ck_190, ck_191, ck_192, ck_193, ck_194, ck_195, ck_196, ck_197, ck_198, ck_199]
noncomputable def cks_5 : List (Hx.Fr → Bool) := [ck_200, ck_201, ck_202, ck_203, ck_204, ck_205, ck_206, ck_207, ck_208, ck_209, ck_210, ck_211, ck_212, ck_213, ck_214, ck_215, ck_216, ck_217, ck_218, ck_219, ck_220, ck_221, ck_222, ck_223, ck_224, ck_225, ck_226, ck_227, ck_228, ck_229, ck_230, ck_231, ck_232, ck_233, ck_234, ck_235, ck_236, ck_237, ck_238, ck_239]
noncomputable def cks_6 : List (Hx.Fr → Bool) := [ck_240, ck_241, ck_242, ck_243, ck_244, ck_245, ck_246, ck_247, ck_248, ck_249, ck_250, ck_251, ck_252]
noncomputable def ct_0 : List (List (Hx.Fr → Bool)) := [cks_0, cks_1, cks_2]
noncomputable def ct_1 : List (List (Hx.Fr → Bool)) := [cks_3, cks_4, cks_5]
noncomputable def ct_2 : List (List (Hx.Fr → Bool)) := [cks_6]
noncomputable abbrev cks : List (List (Hx.Fr → Bool)) := (ct_0 ++ (ct_1 ++ ct_2))
noncomputable def fn_0 : Hx.FnX := ⟨fun K => (Hx.gl K "is_integer"), "is_integer", "is_integer", s_is_integer, false⟩
noncomputable def fn_1 : Hx.FnX := ⟨fun K => (Hx.gl K "is_between"), "is_between", "is_between", s_is_between, false⟩
noncomputable def fn_2 : Hx.FnX := ⟨fun K => (Hx.gl K "is_row"), "is_row", "is_row", s_is_row, false⟩
noncomputable def fn_3 : Hx.FnX := ⟨fun K => (Hx.me K (Hx.gl K "Ledger") "__init__"), "__init__", "Ledger.__init__", s_Ledger___init__, false⟩
noncomputable def fn_4 : Hx.FnX := ⟨fun K => (Hx.rh K (Hx.me K (Hx.gl K "Ledger") "rows") "property"), "rows", "Ledger.rows", s_Ledger_rows, false⟩
noncomputable def fn_5 : Hx.FnX := ⟨fun K => (Hx.rh K (Hx.me K (Hx.gl K "Ledger") "greatest") "property"), "greatest", "Ledger.greatest", s_Ledger_greatest, false⟩
noncomputable def fn_6 : Hx.FnX := ⟨fun K => (Hx.me K (Hx.gl K "Ledger") "__getitem__"), "__getitem__", "Ledger.__getitem__", s_Ledger___getitem__, false⟩
noncomputable def fn_7 : Hx.FnX := ⟨fun K => (Hx.me K (Hx.gl K "Ledger") "__contains__"), "__contains__", "Ledger.__contains__", s_Ledger___contains__, false⟩
noncomputable def fn_8 : Hx.FnX := ⟨fun K => (Hx.me K (Hx.gl K "Ledger") "__len__"), "__len__", "Ledger.__len__", s_Ledger___len__, false⟩
noncomputable def fn_9 : Hx.FnX := ⟨fun K => (Hx.me K (Hx.gl K "Ledger") "__add__"), "__add__", "Ledger.__add__", s_Ledger___add__, false⟩
noncomputable def fn_10 : Hx.FnX := ⟨fun K => (Hx.me K (Hx.gl K "Ledger") "__eq__"), "__eq__", "Ledger.__eq__", s_Ledger___eq__, false⟩
noncomputable def fn_11 : Hx.FnX := ⟨fun K => (Hx.me K (Hx.gl K "Ledger") "__repr__"), "__repr__", "Ledger.__repr__", s_Ledger___repr__, false⟩
noncomputable def fn_12 : Hx.FnX := ⟨fun K => (Hx.gl K "_law_pen"), "_law_pen", "_law_pen", s__law_pen, false⟩
noncomputable def fn_13 : Hx.FnX := ⟨fun K => (Hx.gl K "_law_draw"), "_law_draw", "_law_draw", s__law_draw, false⟩
noncomputable def fn_14 : Hx.FnX := ⟨fun K => (Hx.gl K "_law_word"), "_law_word", "_law_word", s__law_word, false⟩
noncomputable def fn_15 : Hx.FnX := ⟨fun K => (Hx.gl K "_law_field"), "_law_field", "_law_field", s__law_field, false⟩
noncomputable def fn_16 : Hx.FnX := ⟨fun K => (Hx.gl K "_law_more_field"), "_law_more_field", "_law_more_field", s__law_more_field, false⟩
noncomputable def fn_17 : Hx.FnX := ⟨fun K => (Hx.gl K "_law_heard"), "_law_heard", "_law_heard", s__law_heard, false⟩
noncomputable def fn_18 : Hx.FnX := ⟨fun K => (Hx.gl K "_law_offset"), "_law_offset", "_law_offset", s__law_offset, false⟩
noncomputable def fn_19 : Hx.FnX := ⟨fun K => (Hx.gl K "_law_amount"), "_law_amount", "_law_amount", s__law_amount, false⟩
noncomputable def fn_20 : Hx.FnX := ⟨fun K => (Hx.gl K "_law_rows"), "_law_rows", "_law_rows", s__law_rows, false⟩
noncomputable def fn_21 : Hx.FnX := ⟨fun K => (Hx.gl K "_law_sums"), "_law_sums", "_law_sums", s__law_sums, false⟩
noncomputable def fn_22 : Hx.FnX := ⟨fun K => (Hx.gl K "_law_ledger"), "_law_ledger", "_law_ledger", s__law_ledger, false⟩
noncomputable def fn_23 : Hx.FnX := ⟨fun K => (Hx.gl K "_law_odd"), "_law_odd", "_law_odd", s__law_odd, false⟩
noncomputable def fn_24 : Hx.FnX := ⟨fun K => (Hx.gl K "_law_refused_right"), "_law_refused_right", "_law_refused_right", s__law_refused_right, false⟩
noncomputable def fn_25 : Hx.FnX := ⟨fun K => (Hx.gl K "_law_told_right"), "_law_told_right", "_law_told_right", s__law_told_right, false⟩
noncomputable def fn_26 : Hx.FnX := ⟨fun K => (Hx.gl K "_law_alike_right"), "_law_alike_right", "_law_alike_right", s__law_alike_right, false⟩
noncomputable def fn_27 : Hx.FnX := ⟨fun K => (Hx.gl K "_law_long_right"), "_law_long_right", "_law_long_right", s__law_long_right, false⟩
noncomputable def fn_28 : Hx.FnX := ⟨fun K => (Hx.gl K "law"), "law", "law", s_law, false⟩
noncomputable def fn_29 : Hx.FnX := ⟨fun K => (Hx.me K (Hx.gl K "InvalidRow") "__init__"), "__init__", "InvalidRow.__init__", s_InvalidRow___init__, false⟩
noncomputable def fns : List Hx.FnX := [fn_0, fn_1, fn_2, fn_3, fn_4, fn_5, fn_6, fn_7, fn_8, fn_9, fn_10, fn_11, fn_12, fn_13, fn_14, fn_15, fn_16, fn_17, fn_18, fn_19, fn_20, fn_21, fn_22, fn_23, fn_24, fn_25, fn_26, fn_27, fn_28, fn_29]
abbrev Rw : PySem.W.OpenRow := PySem.W.OpenLaw.row PySem.Challenge.rw_forkecho_k25_ledgers_made
noncomputable abbrev hk : PySem.W.Hook := Hx.hookX 3000 [] cks fns
noncomputable abbrev ob : PySem.W.SharedT → Hx.AlX := Hx.obT 3000 [] cks fns
theorem ob_eq (s : PySem.W.SharedT) : ob s = hk.obs s.abs := Hx.obT_eq s
def names : List Str := (Rw.prog.main.scope.names.map (·.1)).filter fun x => x != "_law_long_right" && x != "_law_refused_right" && x != "law" && x != "__name__"
set_option maxHeartbeats 0 in
theorem run_b (w : World) : HandSHeadRun.RunEq Rw (PySem.W.view Rw.prog [51, 54, 55]) (Hx.hookX 3000 [] [] []) (Hx.obT 3000 [] [] []) 100000 names w := by
  intro os
  kernel_rfl
set_option maxHeartbeats 0 in
theorem run_0 (w : World) : Hx.RunO Rw (PySem.W.view Rw.prog [51, 54, 55]) (Hx.hookX 3000 [] ct_0 []) (Hx.obT 3000 [] ct_0 []) 100000 w := by
  intro os
  kernel_rfl
set_option maxHeartbeats 0 in
theorem run_1 (w : World) : Hx.RunO Rw (PySem.W.view Rw.prog [51, 54, 55]) (Hx.hookX 3000 [] ct_1 []) (Hx.obT 3000 [] ct_1 []) 100000 w := by
  intro os
  kernel_rfl
set_option maxHeartbeats 0 in
theorem run_2 (w : World) : Hx.RunO Rw (PySem.W.view Rw.prog [51, 54, 55]) (Hx.hookX 3000 [] ct_2 fns) (Hx.obT 3000 [] ct_2 fns) 100000 w := by
  intro os
  kernel_rfl
theorem run (w : World) : HandSHeadRun.RunEq Rw (PySem.W.view Rw.prog [51, 54, 55]) hk ob 100000 names w := Hx.run_base (run_b w) (Hx.runO_join (run_0 w) (Hx.runO_join (run_1 w) (run_2 w)))
end K25
namespace DL
open PySem PySem.Spec L2 C8
/-! ### how the readings unfold -/
section
variable {ρ : EnvD} {h : AH} {Q : KD} {X : KX} {D0 : EndsD} {a b c : WE} {s1 s2 : WS} {t u : WT} {i j : Int} {m : Bool} {xs : List D} {d x y z : D}
theorem u_seq : wSeq s1 s2 D0 ρ h = s1 { D0 with nx := s2 D0 } ρ h := rfl
theorem u_asg {g : WG} : wAsg a g D0 ρ h = a ρ h (fun x h1 => g x ρ h1 D0.nx D0.ex) D0.ex := rfl
theorem u_gN {n : Nat} {Q : EnvD → AH → Prop} : gN n d ρ h Q X = Q (ρ.set n (some d)) h := rfl
theorem u_ret : wRet a D0 ρ h = a ρ h D0.rt D0.ex := rfl
theorem u_retN : wRetN D0 ρ h = D0.rt .non h := rfl
theorem u_skip : wSkip D0 ρ h = D0.nx ρ h := rfl
theorem u_expr : wExpr a D0 ρ h = a ρ h (fun _ h1 => D0.nx ρ h1) D0.ex := rfl
theorem u_ifs : wIfS t s1 s2 D0 ρ h = t ρ h (fun c h1 => if c = true then s1 D0 ρ h1 else s2 D0 ρ h1) D0.ex := rfl
theorem u_c : wC d ρ h Q X = Q d h := rfl
theorem u_var {n : Nat} (e : ρ[n]? = some (some d)) : wVar n ρ h Q X = Q d h := by simp [wVar, e]
theorem u_op {f : D → D → AH → KD → Prop} : wOp f a b ρ h Q X = a ρ h (fun x h1 => b ρ h1 (fun y h2 => f x y h2 Q) X) X := rfl
theorem u_neg : wNeg a ρ h Q X = a ρ h (fun x h1 => match x with
  | .int i => Q (.int (-i)) h1
  | _ => False) X := rfl
theorem u_test {Q : Bool → AH → Prop} : wTest a ρ h Q X = a ρ h (fun x h1 => match x with
  | .bl b => Q b h1
  | _ => False) X := rfl
theorem u_and {Q : Bool → AH → Prop} : wAnd t u ρ h Q X = t ρ h (fun c h1 => if c = true then u ρ h1 Q X else Q false h1) X := rfl
theorem u_or {Q : Bool → AH → Prop} : wOr t u ρ h Q X = t ρ h (fun c h1 => if c = true then Q true h1 else u ρ h1 Q X) X := rfl
theorem u_not {Q : Bool → AH → Prop} : wNot t ρ h Q X = t ρ h (fun c h1 => Q (!c) h1) X := rfl
theorem u_if : wIf t a b ρ h Q X = t ρ h (fun c h1 => if c = true then a ρ h1 Q X else b ρ h1 Q X) X := rfl
theorem u_nil {Q : List D → AH → Prop} : wNil ρ h Q X = Q [] h := rfl
theorem u_cons {r : WA} {Q : List D → AH → Prop} : wCons a r ρ h Q X = a ρ h (fun x h1 => r ρ h1 (fun xs h2 => Q (x :: xs) h2) X) X := rfl
theorem u_tup {l : WA} : wTup l ρ h Q X = l ρ h (fun xs h1 => xs.length ≤ sizeLine ∧ Q (.tup xs) h1) X := rfl
theorem u_lst {l : WA} : wLst m l ρ h Q X = l ρ h (fun xs h1 => xs.length ≤ sizeLine ∧ newL m xs h1 Q) X := rfl
theorem u_callP {S : FSpec} {n : Nat} {g : List D → List D → List D} {l : WA} : wCallP S n g l ρ h Q X = l ρ h (fun ds h1 => ds.length = n ∧ S (g ds []) h1 Q X) X := rfl
theorem u_call {S : FSpec} {n k : Nat} {g : List D → List D → List D} {l r : WA} : wCall S n k g l r ρ h Q X = l ρ h (fun ds h1 => r ρ h1 (fun zs h2 => ds.length = n ∧ zs.length = k ∧ S (g ds zs) h2 Q X) X) X := rfl
theorem u_b {r : List D → AH → KD → Prop} {l : WA} : wB r l ρ h Q X = l ρ h (fun xs h1 => r xs h1 Q) X := rfl
theorem u_chain {f g : D → D → AH → KD → Prop} : wChain f g a b c ρ h Q X = a ρ h (fun x h1 => b ρ h1 (fun y h2 => f x y h2 fun z h3 => match z with
  | .bl k => if k = true then c ρ h3 (fun u h4 => g y u h4 Q) X else Q (.bl false) h3
  | _ => False) X) X := rfl
theorem u_andV : wAndV a b ρ h Q X = a ρ h (fun x h1 => match x with
  | .bl k => if k = true then b ρ h1 Q X else Q (.bl false) h1
  | _ => False) X := rfl
theorem u_addI : dAdd m (.int i) (.int j) h Q = Q (.int (i + j)) h := rfl
theorem u_subI : dSub (.int i) (.int j) h Q = Q (.int (i - j)) h := rfl
theorem u_mulI : dMul m (.int i) (.int j) h Q = (MulOk i j ∧ Q (.int (i * j)) h) := rfl
theorem u_divI : dDiv (.int i) (.int j) h Q = (DivOk j ∧ Q (.int (i / j)) h) := rfl
theorem u_modI : dMod (.int i) (.int j) h Q = (0 < j ∧ Q (.int (i % j)) h) := rfl
theorem u_powI : dPow (.int i) (.int j) h Q = (PowOk i j ∧ Q (.int (i ^ j.toNat)) h) := rfl
theorem u_cmpI {f : Int → Int → Bool} : dCmpI f (.int i) (.int j) h Q = Q (.bl (f i j)) h := rfl
theorem u_eqI {f : Bool → Bool} : dEq f (.int i) (.int j) h Q = Q (.bl (f (decide (i = j)))) h := rfl
theorem u_eqS {f : Bool → Bool} {i j : Str} : dEq f (.str i) (.str j) h Q = Q (.bl (f (decide (i = j)))) h := rfl
theorem u_eqB {f : Bool → Bool} {i j : Bool} : dEq f (.bl i) (.bl j) h Q = Q (.bl (f (decide (i = j)))) h := rfl
theorem u_ixL : dIx (.lst xs) (.int i) h Q = ∃ d, atI xs i = some d ∧ Q d h := by simp [dIx, seqOf, lstOf]
theorem u_ixT : dIx (.tup xs) (.int i) h Q = ∃ d, atI xs i = some d ∧ Q d h := by simp [dIx, seqOf]
theorem u_ixR {p : Addr} (e : h p = some (.lst xs)) : dIx (.ref p) (.int i) h Q = ∃ d, atI xs i = some d ∧ Q d h := by simp [dIx, seqOf, lstOf, e]
theorem u_ixLd (e : atI xs i = some d) : dIx (.lst xs) (.int i) h Q = Q d h := by simp [u_ixL, e]
theorem u_ixTd (e : atI xs i = some d) : dIx (.tup xs) (.int i) h Q = Q d h := by simp [u_ixT, e]
theorem u_ixRd {p : Addr} (e : h p = some (.lst xs)) (e2 : atI xs i = some d) : dIx (.ref p) (.int i) h Q = Q d h := by simp [u_ixR e, e2]
theorem at0 : atI (x :: xs) 0 = some x := by simp [atI, ixN]
theorem at1 : atI (x :: y :: xs) 1 = some y := by
  have : (1 : Int) < (xs.length : Int) + 1 + 1 := by omega
  simp [atI, ixN, this]
theorem at2 : atI (x :: y :: z :: xs) 2 = some z := by
  have : (2 : Int) < (xs.length : Int) + 1 + 1 + 1 := by omega
  simp [atI, ixN, this]
theorem u_abs : dAbs [.int i] h Q = Q (.int (if i < 0 then -i else i)) h := rfl
theorem u_intI : dInt [.int i] h Q = Q (.int i) h := rfl
theorem u_intB {k : Bool} : dInt [.bl k] h Q = Q (.int (if k then 1 else 0)) h := rfl
theorem u_lenL : dLen [.lst xs] h Q = Q (.int (xs.length : Nat)) h := by simp [dLen, lenD, cur]
theorem u_lenT : dLen [.tup xs] h Q = Q (.int (xs.length : Nat)) h := by simp [dLen, lenD, cur]
theorem u_newT : newL true xs h Q = ∀ p, h p = none → Q (.ref p) (up h p (.lst xs)) := by simp [newL]
theorem u_newF : newL false xs h Q = Q (.lst xs) h := by simp [newL]
theorem u_isN : dIsN (fun b => b) .non .non h Q = Q (.bl true) h := rfl
theorem u_notN : dIsN (fun b => !b) .non .non h Q = Q (.bl false) h := rfl
end
/-! ### == of lists -/
theorem pd_ints (cs : List Int) : pds (cs.map D.int) = cs.map PyData.int := by
  induction cs with
  | nil => rfl
  | cons c cs ih => rw [List.map_cons, pds, ih, pd]; rfl
theorem dats_ints (cs : List Int) : dats (cs.map D.int) = true := by
  induction cs with
  | nil => rfl
  | cons c cs ih => rw [List.map_cons, dats, ih]; rfl
theorem lay_ints (cs : List Int) : PyData.canLayAll0 (cs.map PyData.int) = true := by
  induction cs with
  | nil => rw [List.map_nil, PyData.canLayAll0]
  | cons c cs ih => rw [List.map_cons, PyData.canLayAll0, ih, PyData.canLay0]; rfl
theorem dep_ints (cs : List Int) : PyData.depthAll (cs.map PyData.int) = 0 := by
  induction cs with
  | nil => rw [List.map_nil, PyData.depthAll]
  | cons c cs ih => rw [List.map_cons, PyData.depthAll, ih, PyData.depth]; rfl
theorem sh_lst (cs : List Int) : SeqAt.shaped (pd (.lst (cs.map D.int))) = true := by
  rw [pd, pd_ints]; unfold SeqAt.shaped
  rw [PyData.canLay0, PyData.depth, lay_ints, dep_ints]; rfl
theorem eqv_ints : ∀ cs ds : List Int, PyData.eqvAll (cs.map PyData.int) (ds.map PyData.int) = decide (cs = ds)
  | [], [] => by rw [List.map_nil, PyData.eqvAll]; rfl
  | [], d :: ds => by rw [List.map_nil, List.map_cons, PyData.eqvAll]; rfl
  | c :: cs, [] => by rw [List.map_nil, List.map_cons, PyData.eqvAll]; rfl
  | c :: cs, d :: ds => by
    rw [List.map_cons, List.map_cons, PyData.eqvAll, PyData.eqv, eqv_ints cs ds]
    by_cases e : c = d <;> simp [e]
theorem eq_lst {f : Bool → Bool} {cs ds : List Int} {h : AH} {Q : KD} (q : Q (.bl (f (decide (cs = ds)))) h) : dEq f (.lst (cs.map D.int)) (.lst (ds.map D.int)) h Q := by
  refine ⟨by show dats _ = true; exact dats_ints cs, by show dats _ = true; exact dats_ints ds, sh_lst cs, sh_lst ds, ?_⟩
  show Q (.bl (f (PyData.eqv (pd (.lst (cs.map D.int))) (pd (.lst (ds.map D.int)))))) h
  rw [pd, pd, PyData.eqv, pd_ints, pd_ints, eqv_ints]; exact q
theorem eq_nil {f : Bool → Bool} {cs : List Int} {h : AH} {Q : KD} (q : Q (.bl (f (decide (cs = [])))) h) : dEq f (.lst (cs.map D.int)) (.lst []) h Q := eq_lst (ds := []) q
/-- a statement, then the rest, over what stands between -/
theorem seq_go {s1 s2 : WS} {D0 : EndsD} {ρ : EnvD} {h : AH} (P : EnvD → AH → Prop) (h1 : ∀ K : EnvD → AH → Prop, (∀ ρ h, P ρ h → K ρ h) → s1 { D0 with nx := K } ρ h) (h2 : ∀ ρ h, P ρ h → s2 D0 ρ h) : wSeq s1 s2 D0 ρ h := h1 _ h2
theorem loop_go {st : AH → Prop} {g : WG} {tb : WS} {Z : EndsD} {xs : List D} {ρ : EnvD} {h : AH} (P : Nat → EnvD → AH → Prop) (h0 : P 0 ρ h) (hst : ∀ i ρ h, P i ρ h → st h)
    (hs : ∀ i x ρ h (K : EnvD → AH → Prop), xs[i]? = some x → P i ρ h → (∀ ρ h, P (i + 1) ρ h → K ρ h) → g x ρ h (fun ρ2 h2 => tb { Z with nx := K, ct := K, bk := Z.nx } ρ2 h2) Z.ex) (hd : ∀ ρ h, P xs.length ρ h → Z.nx ρ h) : loopD st g tb Z xs ρ h := by
  suffices H : ∀ (n i : Nat), xs.length - i = n → i ≤ xs.length → ∀ ρ h, P i ρ h → loopD st g tb Z (xs.drop i) ρ h by
    simpa using H xs.length 0 (by simp) (Nat.zero_le _) ρ h h0
  intro n
  induction n with
  | zero =>
    intro i e l ρ h p
    obtain rfl : i = xs.length := by omega
    rw [List.drop_length]
    exact ⟨hst _ _ _ p, hd _ _ p⟩
  | succ n ih =>
    intro i e l ρ h p
    have lt : i < xs.length := by omega
    rw [List.drop_eq_getElem_cons lt]
    exact ⟨hst _ _ _ p, hs i _ ρ h (loopD st g tb Z (xs.drop (i + 1))) (List.getElem?_eq_getElem lt) p fun ρ h q => ih (i + 1) (by omega) lt ρ h q⟩
/-- a comprehension: P by the turn and the heap -/
theorem comp_go {st : AH → Prop} {g : WG} {tt : WT} {te : WE} {vs : List Nat} {ρ : EnvD} {p : Addr} {xs : List D} {h : AH} {Q : AH → Prop} (P : Nat → AH → Prop) (h0 : P 0 h) (hst : ∀ i h, P i h → st h)
    (hs : ∀ i x h (K : AH → Prop), xs[i]? = some x → P i h → (∀ h, P (i + 1) h → K h) → g x (wipeD ρ vs) h (fun ρ2 h2 => tt ρ2 h2 (fun b h3 => if b = true then te ρ2 h3 (fun y h4 => ∃ acc, h4 p = some (.lst acc) ∧ acc.length < sizeLine ∧ K (up h4 p (.lst (acc ++ [y])))) (fun _ _ => False) else K h3) (fun _ _ => False)) (fun _ _ => False))
    (hd : ∀ h, P xs.length h → Q h) : compD st g tt te vs ρ p xs h Q := by
  suffices H : ∀ (n i : Nat), xs.length - i = n → i ≤ xs.length → ∀ h, P i h → compD st g tt te vs ρ p (xs.drop i) h Q by
    simpa using H xs.length 0 (by simp) (Nat.zero_le _) h h0
  intro n
  induction n with
  | zero =>
    intro i e l h p
    obtain rfl : i = xs.length := by omega
    rw [List.drop_length]
    exact ⟨hst _ _ p, hd _ p⟩
  | succ n ih =>
    intro i e l h q
    have lt : i < xs.length := by omega
    rw [List.drop_eq_getElem_cons lt]
    exact ⟨hst _ _ q, hs i _ h (fun h => compD st g tt te vs ρ p (xs.drop (i + 1)) h Q) (List.getElem?_eq_getElem lt) q fun h z => ih (i + 1) (by omega) lt h z⟩
/-- .. where the heap is as it was but for the new list, whose items come one by one: f item or none -/
theorem comp_pure {st : AH → Prop} {g : WG} {tt : WT} {te : WE} {vs : List Nat} {ρ : EnvD} {p : Addr} {xs : List D} {h : AH} {Q : AH → Prop} (f : D → Option D) (hst : ∀ acc, st (up h p (.lst acc))) (hl : xs.length ≤ sizeLine)
    (hs : ∀ x acc (K : AH → Prop), x ∈ xs → acc.length < sizeLine → K (up h p (.lst (acc ++ (f x).toList))) → g x (wipeD ρ vs) (up h p (.lst acc)) (fun ρ2 h2 => tt ρ2 h2 (fun b h3 => if b = true then te ρ2 h3 (fun y h4 => ∃ acc, h4 p = some (.lst acc) ∧ acc.length < sizeLine ∧ K (up h4 p (.lst (acc ++ [y])))) (fun _ _ => False) else K h3) (fun _ _ => False)) (fun _ _ => False))
    (hd : Q (up h p (.lst (xs.filterMap f)))) : compD st g tt te vs ρ p xs (up h p (.lst [])) Q := by
  refine comp_go (fun i h' => ∃ acc, acc = (xs.take i).filterMap f ∧ h' = up h p (.lst acc)) ⟨[], by simp, rfl⟩ (fun i h' ⟨acc, _, e⟩ => e ▸ hst acc) ?_ ?_
  · rintro i x h' K e ⟨acc, rfl, rfl⟩ k
    have li := (List.getElem?_eq_some_iff.mp e).1
    refine hs x _ K (List.mem_of_getElem? e) ?_ (k _ ⟨_, ?_, rfl⟩)
    · have := List.length_filterMap_le f (xs.take i)
      simp at this; omega
    · rw [List.take_succ, e, Option.toList_some, List.filterMap_append]
      congr 1
  · rintro h' ⟨acc, rfl, rfl⟩
    rw [List.take_length]
    exact hd
end DL
namespace DL
open PySem PySem.Spec L2 C8
/-! ### the pen: cells, where it stands, what is left of a great cell -/
def PenO (n : Int) (o : AO) : Prop := ∃ (cs : List Int) (at_ gr : Int), o = .lst [.lst (cs.map D.int), .int at_, .int gr] ∧ cs.length ≤ 63 ∧ 0 ≤ at_ ∧ at_ ≤ n ∧ 0 ≤ gr
def PenAt (n : Int) (h : AH) (p : Addr) : Prop := ∃ o, h p = some o ∧ PenO n o
theorem PenO.mono {n m : Int} {o : AO} (h : PenO n o) (l : n ≤ m) : PenO m o := by
  obtain ⟨cs, a, g, rfl, l1, l2, l3, l4⟩ := h
  exact ⟨cs, a, g, rfl, l1, l2, by omega, l4⟩
def S_draw : FSpec := fun ds h Q _ => ∃ (n : Int) (p : Addr) (m : Int), ds = [.ref p, .int m] ∧ PenAt n h p ∧ n < 1000000 ∧ DivOk m ∧ ∀ v o, 0 ≤ v → v < m → PenO (n + 1) o → Q (.int v) (up h p o)
theorem mo_draw : MoF S_draw := fun ds h Q Q' X X' hq _ ⟨n, p, m, e, e1, e2, e3, q⟩ => ⟨n, p, m, e, e1, e2, e3, fun v o h1 h2 h3 => hq _ _ (q v o h1 h2 h3)⟩
theorem len_draw : ∀ ds h Q X, S_draw ds h Q X → ds.length = 2 := fun ds h Q X ⟨n, p, m, e, _⟩ => by rw [e]; rfl
def S_pen : FSpec := fun ds h Q _ => ∃ js : List Int, ds = [.lk (js.map D.int)] ∧ ∀ p o, h p = none → PenO 0 o → Q (.ref p) (up h p o)
theorem mo_pen : MoF S_pen := fun ds h Q Q' X X' hq _ ⟨js, e, q⟩ => ⟨js, e, fun p o h1 h2 => hq _ _ (q p o h1 h2)⟩
theorem len_pen : ∀ ds h Q X, S_pen ds h Q X → ds.length = 1 := fun ds h Q X ⟨js, e, _⟩ => by rw [e]; rfl
def w_pen : WS := (wRet (wLst true (wCons (wB (dListOf false) (wCons (wSl false (wVar 0) woNone (woSome (wC (.int 63)))) wNil)) (wCons (wC (.int 0)) (wCons (wC (.int 0)) wNil)))))
theorem cut_to {α : Type} (xs : List α) (n : Nat) : cutD xs none (some (n : Int)) = xs.take n := by
  unfold cutD
  have e0 : HT.sIx xs.length 0 none = 0 := rfl
  rw [e0, List.drop_zero, Nat.sub_zero]
  rw [HT.sIx_nat]
  exact List.take_eq_take_min.symm
theorem p_pen : ∀ ds h Q X, S_pen ds h Q X → w_pen (endsD Q X) (startD 1 ds) h := by
  rintro ds h Q X ⟨js, rfl, q⟩
  show w_pen (endsD Q X) [some (.lk (js.map D.int))] h
  simp only [w_pen, u_asg, u_gN, u_ret, u_retN, u_skip, u_expr, u_ifs, u_c, u_op, u_neg, u_test, u_and, u_or, u_not, u_if, u_nil, u_cons, u_tup, u_lst, u_callP, u_call, u_b, u_chain, u_andV, u_addI, u_subI, u_mulI, u_divI, u_modI, u_powI, u_cmpI, u_eqI, u_eqS, u_eqB, u_abs, u_intI, u_intB, u_newT, u_newF, u_isN, u_notN, wVar, List.set_cons_zero, List.set_cons_succ, List.getElem?_cons_zero, List.getElem?_cons_succ, List.length_cons, List.length_nil, wSl, woNone, woSome, dSl, dListOf]
  refine ⟨_, _, rfl, rfl, (by decide : 3 ≤ sizeLine), fun p hp => fin_of (q p _ hp ⟨js.take 63, 0, 0, ?_, by simp; omega, by omega, by omega, by omega⟩)⟩
  rw [show (63 : Int) = ((63 : Nat) : Int) by rfl, cut_to, List.map_take]
theorem atI_nat {α : Type} {xs : List α} {j : Nat} (h : j < xs.length) : atI xs (j : Int) = xs[j]? := by
  have h1 : ixN xs.length (j : Int) = some j := by
    unfold ixN
    simp; omega
  unfold atI
  rw [h1]; rfl
theorem mul_l {i j : Int} (h : -(2 ^ 64) < i ∧ i < 2 ^ 64) : MulOk i j := .inl h
theorem sq_le {a b : Int} (h0 : 0 ≤ a) (h : a ≤ b) : a * a ≤ b * b := Int.mul_le_mul h h h0 (by omega)
end DL
namespace DL
open PySem PySem.Spec L2 C8
section
variable {ρ : EnvD} {h : AH} {Q : KD} {X : KX} {D0 : EndsD} {xs : List D} {p q : Addr} {o u : AO}
theorem endF (hp : h p = none) (k : Q (.lst xs) h) : endL false p Q (up h p (.lst xs)) := ⟨xs, up_same, by rw [rm_up, rm_none hp]; exact k⟩
theorem u_lc {m : Bool} {wi : WI} {g : WG} {tt : WT} {te : WE} {vs : List Nat} : wLc m wi g tt te vs ρ h Q X = wi ρ h (fun xs st h1 => ∀ p, h1 p = none → compD st g tt te vs ρ p xs (up h1 p (.lst [])) (endL m p Q)) X := rfl
theorem u_for {wi : WI} {g : WG} {tb : WS} : wFor wi g tb D0 ρ h = wi ρ h (fun xs st h1 => loopD st g tb D0 xs ρ h1) D0.ex := rfl
theorem u_r1 {l : WA} {R : List D → (AH → Prop) → AH → Prop} : iRng1 l ρ h R X = l ρ h (fun ds h1 => match ds with
  | [.int j] => -(2 ^ 62) ≤ j ∧ j < 2 ^ 62 ∧ R (intsD 0 j.toNat) (fun _ => True) h1
  | _ => False) X := rfl
theorem u_r2 {l : WA} {R : List D → (AH → Prop) → AH → Prop} : iRng2 l ρ h R X = l ρ h (fun ds h1 => match ds with
  | [.int i, .int j] => (-(2 ^ 62) ≤ i ∧ i < 2 ^ 62 ∧ -(2 ^ 62) ≤ j ∧ j < 2 ^ 62) ∧ R (intsD i (j - i).toNat) (fun _ => True) h1
  | _ => False) X := rfl
theorem u_r3 {l : WA} {R : List D → (AH → Prop) → AH → Prop} : iRng3 l ρ h R X = l ρ h (fun ds h1 => match ds with
  | [.int i, .int j, .int c] => ∃ n, RgC i j c n ∧ R (stepD i c n) (fun _ => True) h1
  | _ => False) X := rfl
theorem u_seqi {a : WE} {R : List D → (AH → Prop) → AH → Prop} : iSeq a ρ h R X = a ρ h (fun x h1 => match x with
  | .lst xs => R xs (fun _ => True) h1
  | .ref a => ∃ xs, h1 a = some (.lst xs) ∧ R xs (fun h => h a = some (.lst xs)) h1
  | _ => False) X := rfl
theorem u_tupi {a : WE} {R : List D → (AH → Prop) → AH → Prop} : iTupD a ρ h R X = a ρ h (fun x h1 => match x with
  | .tup xs => R xs (fun _ => True) h1
  | .tpl xs => R xs (fun _ => True) h1
  | _ => False) X := rfl
theorem u_num {l : WA} {R : List D → (AH → Prop) → AH → Prop} : iNum l ρ h R X = l ρ h (fun ds h1 => match ds with
  | [.tup xs] => R (numD xs) (fun _ => True) h1
  | _ => False) X := rfl
theorem u_notV {a : WE} : wNotV a ρ h Q X = a ρ h (fun x h1 => match x with
  | .bl b => Q (.bl (!b)) h1
  | _ => False) X := rfl
theorem u_yes {Q : Bool → AH → Prop} : wYes ρ h Q X = Q true h := rfl
theorem u_w0 : wipeD ρ [] = ρ := rfl
theorem u_w1 {v : Nat} {vs : List Nat} : wipeD ρ (v :: vs) = (wipeD ρ vs).set v none := rfl
end
/-- tuple, list of ints -/
abbrev tpI (es : List Int) : D := .tup (es.map D.int)
theorem at_nth {es : List Int} {k : Nat} (h : k < es.length) : atI (es.map D.int) (k : Int) = some (.int (es.getD k 0)) := by
  rw [atI_nat (by rw [List.length_map]; exact h), List.getElem?_map, List.getElem?_eq_getElem h, List.getD_eq_getElem?_getD, List.getElem?_eq_getElem h]
  rfl
/-! ### how long a repr is -/
theorem txt_len (ts : List Str) : ∀ (k : Nat) (acc : Str), (textFrom k acc ts).length ≤ acc.length + (ts.map fun t => t.length + 2).sum := by
  induction ts with
  | nil => intro k acc; exact Nat.le_add_right _ _
  | cons t ts ih =>
    intro k acc
    have h := ih (k + 1) (acc ++ (if k > 0 then ", " else "" : String) ++ t)
    rw [Str.length_append, Str.length_append] at h
    have l2 : ((if k > 0 then ", " else "" : String) : Str).length ≤ 2 := by split <;> decide
    show (textFrom (k + 1) _ ts).length ≤ _
    rw [List.map_cons, List.sum_cons]
    omega
theorem lst_len (ts : List Str) : (listText ts).length ≤ 2 + (ts.map fun t => t.length + 2).sum := by
  have h := txt_len ts 0 "["
  unfold listText
  rw [Str.length_append]
  have l1 : (("[" : String) : Str).length = 1 := by decide
  have l2 : (("]" : String) : Str).length = 1 := by decide
  omega
theorem tup_len (ts : List Str) : (tupleText ts).length ≤ 3 + (ts.map fun t => t.length + 2).sum := by
  unfold tupleText
  rw [Str.length_append, Str.length_append]
  have l1 : (("(" : String) : Str).length = 1 := by decide
  have l2 : ((if ts.length == 1 then ",)" else ")" : String) : Str).length ≤ 2 := by split <;> decide
  by_cases e : ts = []
  · subst e
    have l3 : (Str.join ", " ([] : List Str)).length = 0 := by decide
    simp at l2 ⊢
    omega
  · have l3 := join_length_add ts e
    unfold piled at l3
    omega
theorem lg_lt {n k : Nat} (h : n < 2 ^ k) (hk : 0 < k) : n.log2 < k := by
  by_cases e : n = 0
  · subst e; exact hk
  · exact (Nat.log2_lt e).mpr h
theorem int_len {i : Int} {k : Nat} (hk : 0 < k) (h : i.natAbs < 2 ^ k) : (PyData.int i).shown.length ≤ k + 1 := by
  rw [PyData.shown]
  have e := int_text_length_le (a := i) hk (lg_lt h hk)
  show (Str.ofString (toString i)).length ≤ k + 1
  rw [ofString_length]; exact e
theorem all_len {ds : List PyData} {c : Nat} (h : ∀ d ∈ ds, d.shown.length ≤ c) : ((PyData.shownAll ds).map fun t => t.length + 2).sum ≤ ds.length * (c + 2) := by
  induction ds with
  | nil => rw [PyData.shownAll]; exact Nat.zero_le _
  | cons d ds ih =>
    rw [PyData.shownAll, List.map_cons, List.sum_cons, List.length_cons, Nat.add_mul]
    have h1 := h d (List.mem_cons_self ..)
    have h2 := ih fun e he => h e (List.mem_cons_of_mem _ he)
    omega
end DL
namespace DL
open PySem PySem.Spec L2 C8
/-! ### repr of rows of small things -/
structure Rp (x : D) (k n : Nat) : Prop where
  da : dat x = true
  sh : (pd x).showable = true
  de : (pd x).depth ≤ k
  le : (pd x).shown.length ≤ n
theorem rp_non : Rp .non 0 4 := ⟨rfl, rfl, by rw [pd, PyData.depth]; exact Nat.le_refl _, by rw [pd, PyData.shown]; decide⟩
theorem rp_bl (b : Bool) : Rp (.bl b) 0 5 := ⟨rfl, by rw [pd, PyData.showable], by rw [pd, PyData.depth]; exact Nat.le_refl _, by rw [pd, PyData.shown]; cases b <;> decide⟩
theorem rp_int {i : Int} {j : Nat} (hj : 0 < j) (hj2 : j ≤ 1900) (h : i.natAbs < 2 ^ j) : Rp (.int i) 0 (j + 1) :=
  ⟨rfl, by rw [pd, PyData.showable]; exact decide_eq_true (Nat.lt_of_lt_of_le (lg_lt h hj) (Nat.le_trans hj2 (by decide))), by rw [pd, PyData.depth]; exact Nat.le_refl _, by rw [pd]; exact int_len hj h⟩
theorem Rp.up {x : D} {k n l m : Nat} (r : Rp x k n) (h1 : k ≤ l) (h2 : n ≤ m) : Rp x l m := ⟨r.da, r.sh, Nat.le_trans r.de h1, Nat.le_trans r.le h2⟩
theorem rps {k n : Nat} : ∀ {xs : List D}, (∀ x ∈ xs, Rp x k n) → dats xs = true ∧ PyData.showableAll (pds xs) = true ∧ PyData.depthAll (pds xs) ≤ k ∧ ∀ d ∈ pds xs, d.shown.length ≤ n
  | [], _ => ⟨rfl, by rw [pds, PyData.showableAll], by rw [pds, PyData.depthAll]; exact Nat.zero_le _, fun d hd => by rw [pds] at hd; cases hd⟩
  | x :: xs, h => by
    obtain ⟨h1, h2, h3, h4⟩ := rps fun y hy => h y (List.mem_cons_of_mem _ hy)
    have r := h x (List.mem_cons_self ..)
    refine ⟨by rw [dats, r.da, h1]; rfl, by rw [pds, PyData.showableAll, r.sh, h2]; rfl, by rw [pds, PyData.depthAll]; exact Nat.max_le.mpr ⟨r.de, h3⟩, fun d hd => ?_⟩
    rw [pds] at hd
    rcases List.mem_cons.mp hd with rfl | hd
    · exact r.le
    · exact h4 d hd
theorem pds_len (xs : List D) : (pds xs).length = xs.length := by rw [pds_map, List.length_map]
theorem rp_lst {k n l : Nat} {xs : List D} (h : ∀ x ∈ xs, Rp x k n) (hl : xs.length ≤ l) : Rp (.lst xs) (k + 1) (2 + l * (n + 2)) := by
  obtain ⟨h1, h2, h3, h4⟩ := rps h
  refine ⟨h1, by rw [pd, PyData.showable]; exact h2, by rw [pd, PyData.depth]; omega, ?_⟩
  rw [pd, PyData.shown]
  refine Nat.le_trans (lst_len _) ?_
  have := all_len h4
  rw [pds_len] at this
  have := Nat.mul_le_mul_right (n + 2) hl
  omega
theorem rp_tup {k n l : Nat} {xs : List D} (h : ∀ x ∈ xs, Rp x k n) (hl : xs.length ≤ l) : Rp (.tup xs) (k + 1) (3 + l * (n + 2)) := by
  obtain ⟨h1, h2, h3, h4⟩ := rps h
  refine ⟨h1, by rw [pd, PyData.showable]; exact h2, by rw [pd, PyData.depth]; omega, ?_⟩
  rw [pd, PyData.shown]
  refine Nat.le_trans (tup_len _) ?_
  have := all_len h4
  rw [pds_len] at this
  have := Nat.mul_le_mul_right (n + 2) hl
  omega
end DL
namespace DL
open PySem PySem.Spec L2 C8
/-! ### the heap while a pen is drawn from: what stood in h0 stands, the pen apart -/
structure Inv0 (h0 : AH) (p : Addr) (m : Int) (h : AH) : Prop where
  pen : PenAt m h p
  old : ∀ b o, h0 b = some o → b ≠ p → h b = some o
  isp : ∃ o, h0 p = some o
section
variable {h0 h : AH} {p q : Addr} {m n : Int} {o : AO} {Q : KD} {X : KX}
theorem Inv0.start (e : PenAt m h p) : Inv0 h p m h := ⟨e, fun _ _ e _ => e, let ⟨o, e, _⟩ := e; ⟨o, e⟩⟩
theorem Inv0.mono (I : Inv0 h0 p m h) (l : m ≤ n) : Inv0 h0 p n h := ⟨let ⟨o, e, r⟩ := I.pen; ⟨o, e, r.mono l⟩, I.old, I.isp⟩
theorem Inv0.draw (I : Inv0 h0 p m h) (r : PenO n o) : Inv0 h0 p n (up h p o) := ⟨⟨o, up_same, r⟩, fun b u e c => by rw [up_ne c]; exact I.old b u e c, I.isp⟩
theorem Inv0.fresh (I : Inv0 h0 p m h) (e : h q = none) : h0 q = none ∧ q ≠ p := by
  obtain ⟨u, eu, _⟩ := I.pen
  have c : q ≠ p := by rintro rfl; rw [e] at eu; cases eu
  refine ⟨?_, c⟩
  cases z : h0 q with
  | none => rfl
  | some w => rw [I.old _ _ z c] at e; cases e
theorem Inv0.put (I : Inv0 h0 p m h) (e : h0 q = none) : Inv0 h0 p m (up h q o) := by
  have c : q ≠ p := by rintro rfl; obtain ⟨u, z⟩ := I.isp; rw [e] at z; cases z
  obtain ⟨u, eu, r⟩ := I.pen
  exact ⟨⟨u, by rw [up_ne c.symm]; exact eu, r⟩, fun b w z d => by rw [up_ne (by rintro rfl; rw [e] at z; cases z)]; exact I.old b w z d, I.isp⟩
theorem Inv0.new (I : Inv0 h0 p m h) (e : h q = none) : Inv0 h0 p m (up h q o) := I.put (I.fresh e).1
theorem Inv0.sub (I : Inv0 h0 p m h) : ∃ o, PenO m o ∧ Sub (up h0 p o) h := by
  obtain ⟨u, eu, r⟩ := I.pen
  refine ⟨u, r, fun b w z => ?_⟩
  by_cases c : b = p
  · subst c; rw [up_same] at z; cases z; exact eu
  · rw [up_ne c] at z; exact I.old _ _ z c
theorem draw_go {c : Int} (I : Inv0 h0 p m h) (lm : m < 1000000) (dc : DivOk c) (k : ∀ v o, 0 ≤ v → v < c → Inv0 h0 p (m + 1) (up h p o) → (∀ q, q ≠ p → up h p o q = h q) → Q (.int v) (up h p o)) : S_draw [.ref p, .int c] h Q X :=
  ⟨m, p, c, rfl, I.pen, lm, dc, fun v o h1 h2 r => k v o h1 h2 (I.draw r) fun q hq => up_ne hq⟩
end
theorem div_ok {c : Int} (h : 0 < c) (h2 : c < 1073741824) : DivOk c := ⟨h, .inl h2⟩
/-! ### dicts of ints -/
def toK (es : List (Int × Int)) : List (Key × D) := es.map fun e => ((Sum.inl e.1 : Key), D.int e.2)
theorem dk_ref {h : AH} {a : Addr} {kvs : List (Key × D)} (e : h a = some (.dK kvs)) : dkOf h (.ref a) = some kvs := by
  simp [dkOf, e]
theorem lst_ref {h : AH} {a : Addr} {xs : List D} (e : h a = some (.lst xs)) : lstOf h (.ref a) = some xs := by
  simp [lstOf, e]
/-- one of a list of ints -/
theorem at_some {es : List Int} {v : Int} {h : AH} {Q : KD} (h0 : 0 ≤ v) (h1 : v < es.length) (q : ∀ u ∈ es, Q (.int u) h) : dIx (.lst (es.map D.int)) (.int v) h Q := by
  obtain ⟨k, rfl⟩ := Int.eq_ofNat_of_zero_le h0
  have lk : k < es.length := by omega
  refine ⟨_, _, rfl, at_nth lk, q _ ?_⟩
  rw [List.getD_eq_getElem?_getD, List.getElem?_eq_getElem lk]
  exact List.getElem_mem lk
end DL
namespace DL
open PySem PySem.Spec L2 C8
/-! ### defaults of keyword-only parameters -/
end DL
namespace DL
open PySem PySem.Spec L2 C8
/-! ### == of data that hold no text -/
structure Fl (x : D) (k : Nat) : Prop where
  da : dat x = true
  cl : (pd x).canLay0 = true
  de : (pd x).depth ≤ k
theorem fl_bl (b : Bool) : Fl (.bl b) 0 := ⟨rfl, by rw [pd, PyData.canLay0], by rw [pd, PyData.depth]; exact Nat.le_refl _⟩
theorem fl_int (i : Int) : Fl (.int i) 0 := ⟨rfl, by rw [pd, PyData.canLay0], by rw [pd, PyData.depth]; exact Nat.le_refl _⟩
theorem Fl.up {x : D} {k l : Nat} (r : Fl x k) (h : k ≤ l) : Fl x l := ⟨r.da, r.cl, Nat.le_trans r.de h⟩
theorem fls {k : Nat} : ∀ {xs : List D}, (∀ x ∈ xs, Fl x k) → dats xs = true ∧ PyData.canLayAll0 (pds xs) = true ∧ PyData.depthAll (pds xs) ≤ k
  | [], _ => ⟨rfl, by rw [pds, PyData.canLayAll0], by rw [pds, PyData.depthAll]; exact Nat.zero_le _⟩
  | x :: xs, h => by
    obtain ⟨h1, h2, h3⟩ := fls fun y hy => h y (List.mem_cons_of_mem _ hy)
    have r := h x (List.mem_cons_self ..)
    exact ⟨by rw [dats, r.da, h1]; rfl, by rw [pds, PyData.canLayAll0, r.cl, h2]; rfl, by rw [pds, PyData.depthAll]; exact Nat.max_le.mpr ⟨r.de, h3⟩⟩
theorem fl_lst {k : Nat} {xs : List D} (h : ∀ x ∈ xs, Fl x k) : Fl (.lst xs) (k + 1) := by
  obtain ⟨h1, h2, h3⟩ := fls h
  exact ⟨h1, by rw [pd, PyData.canLay0]; exact h2, by rw [pd, PyData.depth]; omega⟩
theorem fl_tup {k : Nat} {xs : List D} (h : ∀ x ∈ xs, Fl x k) : Fl (.tup xs) (k + 1) := by
  obtain ⟨h1, h2, h3⟩ := fls h
  exact ⟨h1, by rw [pd, PyData.canLay0]; exact h2, by rw [pd, PyData.depth]; omega⟩
theorem Fl.sh {x : D} {k : Nat} (r : Fl x k) (hk : k ≤ 64) : SeqAt.shaped (pd x) = true := by
  unfold SeqAt.shaped
  rw [r.cl, decide_eq_true (Nat.le_trans r.de hk)]; rfl
theorem Fl.eqv {x : D} {k : Nat} (r : Fl x k) : PyData.eqv (pd x) (pd x) = true := SeqAt.eqv_refl _ r.cl
theorem fl_pair (e : Int × Int) : Fl (pairD e) 1 := fl_tup fun x hx => by
  have : x = .int e.1 ∨ x = .int e.2 := by simpa using hx
  rcases this with rfl | rfl <;> exact fl_int _
theorem fl_pairs (es : List (Int × Int)) : ∀ x ∈ es.map pairD, Fl x 1 := fun x hx => by
  obtain ⟨e, _, rfl⟩ := List.mem_map.mp hx
  exact fl_pair e
section
variable {f : Bool → Bool} {xs ys : List D} {h : AH} {Q : KD} {k l : Nat} {a : Addr}
theorem same_lst (r : Fl (.lst xs) k) (hk : k ≤ 64) (q : Q (.bl (f true)) h) : dEq f (.lst xs) (.lst xs) h Q :=
  ⟨r.da, r.da, r.sh hk, r.sh hk, by show Q (.bl (f (PyData.eqv (pd (.lst xs)) (pd (.lst xs))))) h; rw [r.eqv]; exact q⟩
theorem fl_e : Fl (.lst []) 1 := fl_lst (k := 0) fun x hx => by cases hx
theorem nil_ref (e : h a = some (.lst xs)) (r : Fl (.lst xs) k) (hk : k ≤ 64) (q : Q (.bl (f xs.isEmpty)) h) : dEq f (.ref a) (.lst []) h Q := by
  have c : cur h (.ref a) = .lst xs := by simp [cur, e]
  refine ⟨by rw [c]; exact r.da, rfl, by rw [c]; exact r.sh hk, fl_e.sh (by decide), ?_⟩
  rw [c]
  show Q (.bl (f (PyData.eqv (pd (.lst xs)) (pd (.lst []))))) h
  rw [pd, pd, PyData.eqv]
  cases xs with
  | nil => rw [pds, PyData.eqvAll]; exact q
  | cons x xs => rw [pds, pds, PyData.eqvAll]; exact q
end
end DL
namespace DL
open PySem PySem.Spec L2 C8
/-! ### attributes -/
def insOf (h : AH) : D → Option (Addr × List (Str × D))
  | .ob C fs => some (C, fs)
  | .ref a => match h a with
    | some (.ins C fs) => some (C, fs)
    | _ => none
  | _ => none
def putFD (f : Str) (d : D) : List (Str × D) → List (Str × D)
  | [] => [(f, d)]
  | (g, x) :: r => if g = f then (g, d) :: r else (g, x) :: putFD f d r
section
variable {K : PySem.W.Frag} {F : Hp} {h : AH} {H : Hp}
theorem RepF.look : ∀ {fs : List (Str × D)} {vs : List (Str × V)} {f : Str} {d : D}, RepF K F fs vs → fs.lookup f = some d → ∃ v, vs.lookup f = some v ∧ Rep K F d v
  | _, _, f, d, .nil, e => by simp at e
  | _, _, f, d, @RepF.cons _ _ k x v xs vs r t, e => by
    cases c : f == k with
    | true =>
      simp only [List.lookup_cons, c] at e ⊢
      cases e
      exact ⟨v, rfl, r⟩
    | false =>
      simp only [List.lookup_cons, c] at e ⊢
      exact RepF.look t e
theorem RepF.put {f : Str} {d : D} {v : V} (r : Rep K F d v) : ∀ {fs : List (Str × D)} {vs : List (Str × V)}, RepF K F fs vs → RepF K F (putFD f d fs) (putF f v vs)
  | _, _, .nil => .cons r .nil
  | _, _, @RepF.cons _ _ k x u xs us q t => by
    show RepF K F (if k = f then (k, d) :: xs else (k, x) :: putFD f d xs) (if k = f then (k, v) :: us else (k, u) :: putF f v us)
    by_cases c : k = f
    · rw [if_pos c, if_pos c]; exact .cons r t
    · rw [if_neg c, if_neg c]; exact .cons q (RepF.put r t)
theorem RepF.length : ∀ {fs : List (Str × D)} {vs : List (Str × V)}, RepF K F fs vs → fs.length = vs.length
  | _, _, .nil => rfl
  | _, _, .cons _ t => by simp [RepF.length t]
theorem Sim.insOf {d : D} {v : V} {C : Addr} {fs : List (Str × D)} (S : Sim K F h H) (r : Rep K F d v) (e : DL.insOf h d = some (C, fs)) : ∃ a dx vs, v = .ref a ∧ H a = some (.ins C dx vs) ∧ RepF K F fs vs := by
  cases r with
  | ref a =>
    cases q : h a with
    | none => simp [DL.insOf, q] at e
    | some o =>
      cases o with
      | ins C' gs =>
        simp only [DL.insOf, q, Option.some.injEq, Prod.mk.injEq] at e
        obtain ⟨rfl, rfl⟩ := e
        obtain ⟨_, u, hu, dx, vs, rfl, rs⟩ := S.ob _ _ q
        exact ⟨a, dx, vs, rfl, hu, rs⟩
      | _ => simp [DL.insOf, q] at e
  | @ob a C' dx xs vs hf rs =>
    simp only [DL.insOf, Option.some.injEq, Prod.mk.injEq] at e
    obtain ⟨rfl, rfl⟩ := e
    exact ⟨a, dx, vs, rfl, S.fz _ _ hf, rs⟩
  | _ => simp [DL.insOf] at e
end
section
variable {X : Cx} {E : XK} {gz : Bool} {k : Nat} {o value e : Expr} {es : List Expr} {wo wv : WE} {wl : WA} {pos pos' p : Pos} {f x : Str} {C : Addr}
/-- e.f of an instance of C -/
def wFld (C : Addr) (f : Str) (wo : WE) : WE := fun ρ h Q X => wo ρ h (fun x h1 => ∃ fs d, insOf h1 x = some (C, fs) ∧ fs.lookup f = some d ∧ Q d h1) X
theorem ae_fld (c : Cls X.K C) (n : NoAttr X.K C f) (ho : AE X E o wo) (hb : attributeBase o f X.env (eval o X.env) = eval o X.env := by rfl) : AE X E (.Attribute o f pos) (wFld C f wo) := by
  refine ⟨PE.imp (pe_fld ho.run hb) fun σ H Q ⟨F, ρ, h, S, R, q⟩ => ?_, fun ρ h Q Q' X X' hq hx q => ho.mo _ _ _ _ _ _ (fun x h1 ⟨fs, d, e1, e2, z⟩ => ⟨fs, d, e1, e2, hq _ _ z⟩) hx q⟩
  refine ⟨F, ρ, h, S, R, ho.mo _ _ _ _ _ _ (fun x h1 z => ?_) (fun _ _ z => z) q⟩
  intro F1 H1 v e1 S1 r
  obtain ⟨fs, d, ei, el, z⟩ := z
  obtain ⟨a, dx, vs, rfl, ha, rs⟩ := S1.insOf r ei
  obtain ⟨w, hw, rw'⟩ := rs.look el
  exact ⟨a, C, dx, vs, w, rfl, ha, c, n, hw, z F1 H1 w e1 S1 rw'⟩
/-- o.f = value -/
def wSetF (C : Addr) (f : Str) (wo wv : WE) : WS := fun D ρ h => wv ρ h (fun z h1 => wo ρ h1 (fun x h2 => ∃ a fs, x = .ref a ∧ h2 a = some (.ins C fs) ∧ fs.length < 1000 ∧ D.nx ρ (up h2 a (.ins C (putFD f z fs)))) D.ex) D.ex
theorem as_fld (c : Cls X.K C) (n : NoAttr X.K C f) (ho : AE X E o wo) (hv : AE X E value wv) (hs : swapsWith value (some (.Attribute o f pos')) pos.line X.env = pure false := by rfl) : AS X E (.Assign [.Attribute o f pos'] value pos) (wSetF C f wo wv) := by
  refine ⟨PS.imp (ps_fld ho.run hv.run hs) fun D σ H ⟨F, ρ, h, S, R, q⟩ => ?_, fun D D' ρ h l q => hv.mo _ _ _ _ _ _ (fun z h1 q => ho.mo _ _ _ _ _ _ (fun x h2 ⟨a, fs, e1, e2, e3, q⟩ => ⟨a, fs, e1, e2, e3, l.nx _ _ q⟩) l.ex q) l.ex q⟩
  refine ⟨F, ρ, h, S, R, hv.mo _ _ _ _ _ _ (fun z h1 q => ?_) (fun _ _ z => z) q⟩
  intro F1 H1 vz e1 S1 rz
  refine ⟨F1, ρ, h1, S1, R.ext e1, ho.mo _ _ _ _ _ _ (fun x h2 q => ?_) (fun _ _ z => LX.ext e1 z) q⟩
  intro F2 H2 vx e2 S2 rx
  obtain ⟨a, fs, rfl, ea, l, q⟩ := q
  cases rx
  obtain ⟨_, u, hu, dx, vs, rfl, rs⟩ := S2.ob _ _ ea
  exact ⟨a, C, dx, vs, rfl, hu, c, n, by rw [← rs.length]; exact l, q F2 _ σ (e1.trans e2) (S2.put ea (o := .ins C (putFD f z fs)) ⟨dx, _, rfl, rs.put (rz.ext e2)⟩) (R.ext (e1.trans e2))⟩
/-- C(e, ..): made, then taken as what does not change -/
def wMake (C : Addr) (S : FSpec) (wl : WA) : WE := fun ρ h Q X => wl ρ h (fun ds h1 => ∀ a, h1 a = none → S (.ref a :: ds) (up h1 a (.ins C [])) (fun v h2 => v = .non ∧ ∃ fs, h2 a = some (.ins C fs) ∧ Q (.ob C fs) (rm h2 a)) X) X
theorem make_to {K : PySem.W.Frag} {S : FSpec} (mo : MoF S) {F : Hp} {h : AH} {H : Hp} {ds : List D} {vs : List V} {Q : VK} {E : XK} (S0 : Sim K F h H) (r : Reps K F ds vs)
    (q : ∀ a, h a = none → S (.ref a :: ds) (up h a (.ins C [])) (fun v h2 => v = .non ∧ ∃ fs, h2 a = some (.ins C fs) ∧ LQ K F Q (.ob C fs) (rm h2 a)) (LX K F E)) :
    ∀ x dx, H x = none → H dx = none → dx ≠ x → spD K S (V.ref x :: vs) (upd (upd H dx (.own x)) x (.ins C dx [])) (fun v H2 => v = .non ∧ Q (.ref x) H2) E := by
  intro x dx hx hd ne
  have S1 := S0.newF hd (.own x)
  have e1 := ext_upd (o := HO.own x) (S0.free hd).1
  have hx1 : (upd H dx (.own x)) x = none := by rw [upd_ne ne.symm]; exact hx
  have S2 := S1.newM hx1 (o := .ins C []) (u := .ins C dx []) ⟨dx, [], rfl, .nil⟩
  refine ⟨_, .ref x :: ds, _, S2, .cons (.ref x) (r.ext e1), mo _ _ _ _ _ _ (fun v h2 z => ?_) (fun _ _ z => LX.ext e1 z) (q x (S0.free hx).2)⟩
  obtain ⟨rfl, fs, ef, z⟩ := z
  intro F3 H3 w e3 S3 rw'
  cases rw'
  refine ⟨rfl, ?_⟩
  obtain ⟨_, u, hu, dy, us, rfl, rs⟩ := S3.ob _ _ ef
  obtain ⟨e4, S4⟩ := S3.frz ef hu rm_same rm_sub
  exact z _ _ _ (e1.trans (e3.trans e4)) S4 (.ob upd_same (rs.ext e4))
/-- what a positional call of a def promises -/
abbrev FnRD (P : Program) (w : World) (K : PySem.W.Frag) (mg : Str → Option Value) (base : Heap) (k : Nat) (f : Addr) (S : FSpec) : Prop := FnR P w K mg base (L2.CX P w) k f fun vs H Q E => spD K S vs H Q E
theorem ae_make {j : Nat} {fI : Addr} {S : FSpec} (c : Cg gz X E k) (M : Mk X.K C fI) (G : FnRD X.prog X.w X.K X.mg X.base j fI S) (mo : MoF S) (hj : j + 1 ≤ k) (hm : X.mg x = some (.ref C)) (ha : AA X E (e :: es) wl)
    (hg : Gl X x := by rfl) (hdb : (x == ("__debug__" : Str)) = false := by decide) (he : starEach (e :: es) X.env = (false, eval e X.env) :: starEach es X.env := by rfl)
    (hpl : (backTo pos (starEach es X.env)).any (·.1) = false := by rfl) : AE X E (.Call (.Name x p) (e :: es) [] pos) (wMake C S wl) := by
  refine ⟨PE.imp (StX.pe_makeR M G (c.room.mono hj) hg hm c.ps ha.run hdb he hpl) fun σ H Q ⟨F, ρ, h, S0, R, q⟩ => ?_, fun ρ h Q Q' X X' hq hx q => ha.mo _ _ _ _ _ _ (fun ds h1 z a hz => mo _ _ _ _ _ _ (fun v h2 ⟨e1, fs, e2, z⟩ => ⟨e1, fs, e2, hq _ _ z⟩) hx (z a hz)) hx q⟩
  refine ⟨F, ρ, h, S0, R, ha.mo _ _ _ _ _ _ (fun ds h1 z => ?_) (fun _ _ z => z) q⟩
  intro F1 H1 vs e1 S1 rs
  exact make_to mo S1 rs fun a ha => mo _ _ _ _ _ _ (fun v h2 ⟨z1, fs, z2, z⟩ => ⟨z1, fs, z2, LQ.ext e1 z⟩) (fun _ _ z => LX.ext e1 z) (z a ha)
end
end DL
namespace DL
open PySem PySem.Spec L2 C8
section
variable {P : Program} {w : World} {K : PySem.W.Frag} {mg : Str → Option Value} {base : Heap} {k : Nat} {f : Addr} {fd : FuncData} {ps : List Str} {S : FSpec}
/-- a def called with all its parameters by place -/
theorem frd_plain (G : FnG false P w K mg base k f fd ps S) (B : Bnd K fd ps ps.length [] (fun ds _ => ds)) : FnRD P w K mg base k f S := by
  intro A outer s H us vs Q E hr e0 r hs
  obtain ⟨F, ds, g, S0, r0, q⟩ := hs
  have X : K.In s.heap := e0.mod.kin.keeps fun b o e => (e0.bs b o e).1
  obtain ⟨xs, ts, rx, rt, bt⟩ := B.to s F ds [] vs [] us [] X (G.len _ _ _ _ q) rfl r0 r .nil .nil
  exact G.run hr (fun z => Bool.noConfusion z) e0 bt rt ⟨F, ds, g, S0, rx, q⟩
theorem FnRD.mono {j : Nat} (G : FnRD P w K mg base j f S) (h : j ≤ k) : FnRD P w K mg base k f S := fun A outer s H us vs Q E hr => G A outer s H us vs Q E (hr.mono h)
/-- what a def with n parameters and a starred one promises by place -/
def starS (n : Nat) (S : FSpec) : FSpec := fun ds h Q X => n ≤ ds.length ∧ (ds.drop n).length ≤ sizeLine ∧ S (ds.take n ++ [.tup (ds.drop n)]) h Q X
theorem starS_mo {n : Nat} (mo : MoF S) : MoF (starS n S) := fun _ _ _ _ _ _ hq hx ⟨a, b, q⟩ => ⟨a, b, mo _ _ _ _ _ _ hq hx q⟩
theorem frd_star {x qual : Str} {st : Stmt} {N : List Str} {pv : Str} {W : WS} (Fn : L2.Fun K x qual st f fd) (sc : FnScope N (ps ++ [pv]) (defScope st)) (len : ∀ ds h Q X, S ds h Q X → ds.length = (ps ++ [pv]).length) (mo : MoF S)
    (hb : ∀ (kV doc pm : Value) (an : Option Addr) (cdv ct : Value) (us rest : List Value), us.length = ps.length → bindArgs (PySem.W.fnOf x qual (defArgs st) (defBody st) (defScope st) .none kV doc pm an cdv ct) ⟨us ++ rest, []⟩ = (newTuple rest >>= fun t => pure (ps.zip us ++ [(pv, t)])))
    (body : ∀ (cdv : Value) (A : Around) (outer : List PySem.Env) (s : Shared) (H : Hp) (E : XK), Cg false (cxOf (L2.CX P w) P w K mg base N qual (defScope st) f cdv A outer s H E) E k →
      ASs (cxOf (L2.CX P w) P w K mg base N qual (defScope st) f cdv A outer s H E) E (defBody st) W)
    (pure : ∀ ds h Q X, S ds h Q X → W (endsD Q X) (startD N.length ds) h) : FnRD P w K mg base (k + 1) f (starS ps.length S) := by
  obtain ⟨oc, od, kV, doc, pm, an, cdv, ct, osl, rfl, lk, hcd⟩ := Fn.ex
  have R := StX.fn_star (P := P) (w := w) (mg := mg) (base := base) (k := k) (sp := fun vs H Q E => spD K S vs H Q E) lk hcd sc StX.cxUp (hb kV doc pm an cdv ct) (fun A outer s H vs Q E hr hs => by
    have c : Cg false (cxOf (L2.CX P w) P w K mg base N qual (defScope st) f cdv A outer s H E) E k :=
      ⟨hr, fun z => Bool.noConfusion z, rfl, sc.nd, passes_call (takes_of rfl rfl rfl rfl) fun _ _ _ _ z => z, passes_of rfl⟩
    obtain ⟨F0, ds, g, S0, r0, q0⟩ := hs
    have B := body cdv A outer s H E c
    refine ⟨_, B.run, F0, _, g, S0, start_env r0, B.mo (endsD (LQ K F0 Q) (LX K F0 E)) _ _ _ ⟨fun ρ h z => ?_, fun d h z => LQ.fin z, fun _ _ z => False.elim z, fun _ _ z => False.elim z, fun _ _ z => z⟩ (pure ds g _ _ q0)⟩
    exact fun F' H' σ' e S' _ => LQ.fin z F' H' .non e S' .non)
  refine R.imp fun vs H Q E hs => ?_
  obtain ⟨F, ds, g, S0, r0, l1, l2, q⟩ := hs
  refine ⟨vs.take ps.length, vs.drop ps.length, (List.take_append_drop _ _).symm, by rw [List.length_take, ← r0.length]; omega, by rw [← (r0.drop ps.length).length]; exact l2, fun p hp => ?_⟩
  have x1 := ext_upd (o := HO.tup (vs.drop ps.length)) (S0.free hp).1
  exact ⟨_, _, g, S0.newF hp _, ((r0.take ps.length).ext x1).append (.cons (.tup (.of upd_same) ((r0.drop ps.length).ext x1)) .nil), mo _ _ _ _ _ _ (fun _ _ z => LQ.ext x1 z) (fun _ _ z => LX.ext x1 z) q⟩
end
section
variable {X : Cx} {E : XK} {gz : Bool} {k j : Nat} {o value e fe : Expr} {es : List Expr} {wo wv we : WE} {wl : WA} {pos pos' p sp_ : Pos} {f x m : Str} {C fI g : Addr} {S : FSpec}
/-- C() -/
theorem ae_make0 (c : Cg gz X E k) (M : Mk X.K C fI) (G : FnRD X.prog X.w X.K X.mg X.base j fI S) (mo : MoF S) (hj : j + 1 ≤ k) (hm : X.mg x = some (.ref C))
    (hg : Gl X x := by rfl) (hdb : (x == ("__debug__" : Str)) = false := by decide) : AE X E (.Call (.Name x p) [] [] pos) (wMake C S wNil) := by
  refine ⟨⟨fun pins s σ H Q I hq => ?_⟩, fun ρ h Q Q' X X' hq hx q a hz => mo _ _ _ _ _ _ (fun v h2 ⟨e1, fs, e2, z⟩ => ⟨e1, fs, e2, hq _ _ z⟩) hx (q a hz)⟩
  obtain ⟨F, ρ, h, S0, R, q⟩ := hq
  refine wpAny_Call_Name_kw (ld_glob I hg hm ?_ hdb)
  exact PySem.W.callWith_K0 (first := []) I.kIn M.kp (StX.run_makeR (us := []) (vs := []) M G (c.room.mono hj) c.ps I .nil (make_to mo S0 .nil q))
/-- C(*e) -/
def wMakeS (C : Addr) (S : FSpec) (we : WE) : WE := fun ρ h Q X => we ρ h (fun y h1 => ∃ ds, seqOf h1 y = some ds ∧ ∀ a, h1 a = none → S (.ref a :: ds) (up h1 a (.ins C [])) (fun v h2 => v = .non ∧ ∃ fs, h2 a = some (.ins C fs) ∧ Q (.ob C fs) (rm h2 a)) X) X
theorem ae_makeS (c : Cg gz X E k) (M : Mk X.K C fI) (G : FnRD X.prog X.w X.K X.mg X.base j fI S) (mo : MoF S) (hj : j + 1 ≤ k) (hm : X.mg x = some (.ref C)) (he : AE X E e we)
    (hg : Gl X x := by rfl) (hdb : (x == ("__debug__" : Str)) = false := by decide) (hst : starEach [.Starred e sp_] X.env = [(true, eval e X.env)] := by rfl) : AE X E (.Call (.Name x p) [.Starred e sp_] [] pos) (wMakeS C S we) := by
  refine ⟨⟨fun pins s σ H Q I hq => ?_⟩, fun ρ h Q Q' X X' hq hx q => he.mo _ _ _ _ _ _ (fun y h1 ⟨ds, e0, z⟩ => ⟨ds, e0, fun a hz => mo _ _ _ _ _ _ (fun v h2 ⟨e1, fs, e2, z⟩ => ⟨e1, fs, e2, hq _ _ z⟩) hx (z a hz)⟩) hx q⟩
  obtain ⟨F, ρ, h, S0, R, q⟩ := hq
  refine wpAny_Call_Name_kw (ld_glob I hg hm ?_ hdb)
  refine PySem.W.callWith_S (h₀ := X.base) I.ok.mod.kin M.kp (thn (he.run.run pins s σ H (fun y H1 => ∃ a xs, y = V.ref a ∧ (SqT X.K H1 a xs ∨ SqL X.K H1 a xs) ∧ ∀ x dx, H1 x = none → H1 dx = none → dx ≠ x → spD X.K S (V.ref x :: xs) (upd (upd H1 dx (.own x)) x (.ins C dx [])) (fun v H2 => v = .non ∧ Q (.ref x) H2) E) I
    ⟨F, ρ, h, S0, R, he.mo _ _ _ _ _ _ (fun y h1 z F1 H1 v e1 S1 r => ?_) (fun _ _ z => z) q⟩) fun v s1 ⟨y, H1, I1, ry, a, xs, ey, hxs, q1⟩ => ?_) hst
  · obtain ⟨ds, e0, z⟩ := z
    obtain ⟨a, vs, rfl, hs, rs⟩ := S1.seqOf r e0
    exact ⟨a, vs, rfl, hs.symm, make_to mo S1 rs fun a ha => mo _ _ _ _ _ _ (fun v h2 ⟨z1, fs, z2, z⟩ => ⟨z1, fs, z2, LQ.ext e1 z⟩) (fun _ _ z => LX.ext e1 z) (z a ha)⟩
  · subst ey
    obtain rfl : v = Value.ref a := ry
    exact StX.star_any I1 hxs fun us s2 I2 rv => ⟨I2.kIn, StX.run_makeR M G (c.room.mono hj) c.ps I2 rv q1⟩
/-- f(e, ..), f an instance of C -/
def wCallO (C : Addr) (S : FSpec) (wo : WE) (wl : WA) : WE := fun ρ h Q X => wo ρ h (fun y h1 => wl ρ h1 (fun ds h2 => (∃ fs, insOf h2 y = some (C, fs)) ∧ S (y :: ds) h2 Q X) X) X
end
end DL
namespace DL
open PySem PySem.Spec L2 C8
section
variable {P : Program} {w : World} {K : PySem.W.Frag} {mg : Str → Option Value} {base : Heap} {k : Nat} {f : Addr} {fd : FuncData} {ps : List Str} {S : FSpec}
theorem FnG.ok (G : FnG false P w K mg base k f fd ps S) : FnOk P w K mg base (L2.CX P w) k f fd ps (fun vs H Q E => spD K S vs H Q E) :=
  ⟨fun vs H Q E h => spD_len G.len h, fun A outer s H args us vs Q E hr e0 hb hv hs => G.run hr (fun z => Bool.noConfusion z) e0 hb hv hs⟩
end
section
variable {X : Cx} {E : XK} {gz : Bool} {k j : Nat} {o value e fe : Expr} {es : List Expr} {wo wv we : WE} {wl : WA} {pos pos' apos p sp_ : Pos} {f x m : Str} {C fI g pa : Addr} {S : FSpec} {fd : FuncData} {ps : List Str}
def isI (C : Addr) (x : D) (h : AH) : Prop := ∃ fs, insOf h x = some (C, fs)
/-- e.f, a property of C -/
def wProp (C : Addr) (S : FSpec) (wo : WE) : WE := fun ρ h Q X => wo ρ h (fun x h1 => isI C x h1 ∧ S [x] h1 Q (fun _ _ => False)) X
theorem ae_prop (c : Cg gz X E k) (cc : Cls X.K C) (hp : PropOf X.K C f pa g) (G : FnG false X.prog X.w X.K X.mg X.base j g fd ps S) (hb : Binds X.K fd ps []) (hj : j + 1 ≤ k) (ho : AE X E o wo)
    (hab : attributeBase o f X.env (eval o X.env) = eval o X.env := by rfl) : AE X E (.Attribute o f pos) (wProp C S wo) := by
  have hx : Passes (L2.CX X.prog X.w) X.nox L2.E0 := passL
  refine ⟨PE.imp (pe_prop ho.run cc hp G.ok (c.room.mono hj) hb .nil hx hab) fun σ H Q ⟨F, ρ, h, S0, R, q⟩ => ?_, fun ρ h Q Q' X X' hq hx q => ho.mo _ _ _ _ _ _ (fun x h1 z => ⟨z.1, G.mo _ _ _ _ _ _ hq (fun _ _ z => z) z.2⟩) hx q⟩
  refine ⟨F, ρ, h, S0, R, ho.mo _ _ _ _ _ _ (fun x h1 z => ?_) (fun _ _ z => z) q⟩
  intro F1 H1 v e1 S1 r
  obtain ⟨⟨fs, ei⟩, z⟩ := z
  obtain ⟨a, dx, vs, rfl, ha, _⟩ := S1.insOf r ei
  exact ⟨a, dx, vs, rfl, ha, F1, _, h1, S1, .cons r .nil, G.mo _ _ _ _ _ _ (fun _ _ z => LQ.ext e1 z) (fun _ _ z => z.elim) z⟩
/-- o.m(e, ..) -/
def wMet (C : Addr) (m : Str) (S : FSpec) (wo : WE) (wl : WA) : WE := fun ρ h Q X => wo ρ h (fun x h1 => ∃ fs, insOf h1 x = some (C, fs) ∧ fs.lookup m = none ∧ wl ρ h1 (fun ds h2 => S (x :: ds) h2 Q X) X) X
theorem RepF.no {K : PySem.W.Frag} {F : Hp} {f : Str} : ∀ {fs : List (Str × D)} {vs : List (Str × V)}, RepF K F fs vs → fs.lookup f = none → vs.lookup f = none
  | _, _, .nil, _ => rfl
  | _, _, @RepF.cons _ _ k x v xs vs r t, e => by
    cases c : f == k with
    | true => simp only [List.lookup_cons, c] at e; cases e
    | false =>
      simp only [List.lookup_cons, c] at e ⊢
      exact RepF.no t e
end
end DL
namespace DL
open PySem PySem.Spec L2 C8
section
variable {X : Cx} {E : XK} {gz : Bool} {k j : Nat} {a b o e : Expr} {wa wb wo wi : WE} {pos apos : Pos} {m : Str} {C g : Addr} {S : FSpec} {op : Operator}
theorem pass_no : Passes (L2.CX X.prog X.w) X L2.E0 := fun _ _ _ _ _ _ _ h => by
  obtain ⟨_, _, _, _, _, _, _, _, _, _, _, _, h⟩ := h
  exact False.elim h
theorem ins_at {pins : List (Addr × Obj)} {σ : L2.St} {H : Hp} {s : Shared} {q dx : Addr} {fs : List (Str × V)} (I : Inv X pins σ H s) (h : H q = some (.ins C dx fs)) : ∃ ox od, PySem.W.InstAt s.heap q ox C od := by
  obtain ⟨mA, O, _⟩ := ins_get I.hok h
  obtain ⟨od, J, _⟩ := O.look
  exact ⟨_, _, J⟩
/-- x op y, both instances of C -/
def rOwn2 (C : Addr) (sp : Sp) : R2 := fun x y H Q => ∃ a dx fs b dy gs, x = .ref a ∧ y = .ref b ∧ H a = some (.ins C dx fs) ∧ H b = some (.ins C dy gs) ∧ sp [x, y] H Q L2.E0
theorem op_own2 (hc : PySem.W.selfFirst X.K C = true) (hs : PySem.W.findIn X.K (.ref C) (PySem.dunder op.info.2) = some (some (.ref g))) (hf : PySem.W.isFn X.K (.ref g) = true) (G : FnRD X.prog X.w X.K X.mg X.base j g S) (hr : Room j X.A) :
    OpR X (binaryOp op) (rOwn2 C fun vs H Q E => spD X.K S vs H Q E) := by
  intro pins s σ H x y v u Q I rx ry h
  obtain ⟨p, dx, fs, q, dy, gs, rfl, rfl, hp, hq, z⟩ := h
  cases (show v = Value.ref p from rx)
  cases (show u = Value.ref q from ry)
  obtain ⟨ox, od, J⟩ := ins_at I hp
  obtain ⟨oy, ody, J'⟩ := ins_at I hq
  obtain ⟨mm, hF⟩ := I.fr
  refine PySem.W.binop_K hF I.ok.mod.kin J J'.type hc hs hf (wpAny_mono (wpAny_call (run_fnR (us := [.ref p, .ref q]) (vs := [.ref p, .ref q]) G hr pass_no I (.cons rfl (.cons rfl .nil)) z)) (fun w s' z => ?_) fun _ _ x => x)
  obtain ⟨z', H', I', rz, qz⟩ := z
  exact SlX.cmpback rz ⟨z', H', I', rz, qz⟩
def dOwn2 (C : Addr) (S : FSpec) (x y : D) (h : AH) (Q : KD) : Prop := isI C x h ∧ isI C y h ∧ S [x, y] h Q (fun _ _ => False)
theorem dOwn2_ok {K : PySem.W.Frag} (mo : MoF S) : OpD K (rOwn2 C fun vs H Q E => spD K S vs H Q E) (dOwn2 C S) where
  to := by
    rintro F h H x y vx vy Q S0 rx ry ⟨⟨fs, ex⟩, ⟨gs, ey⟩, q⟩
    obtain ⟨p, dx, us, rfl, hp, _⟩ := S0.insOf rx ex
    obtain ⟨r, dy, ws, rfl, hq, _⟩ := S0.insOf ry ey
    exact ⟨p, dx, us, r, dy, ws, rfl, rfl, hp, hq, F, _, h, S0, .cons rx (.cons ry .nil), mo _ _ _ _ _ _ (fun _ _ z => z) (fun _ _ z => z.elim) q⟩
  mo := fun hq ⟨a, b, q⟩ => ⟨a, b, mo _ _ _ _ _ _ hq (fun _ _ z => z) q⟩
def dOwnI (C : Addr) (S : FSpec) (x y : D) (h : AH) (Q : KD) : Prop := ∃ i, y = .int i ∧ isI C x h ∧ S [x, y] h Q (fun _ _ => False)
/-- x[i], x an instance of C whose def is at g -/
def rIxOwn (C : Addr) (sp : Sp) : R2 := fun x y H Q => ∃ a dx fs, x = .ref a ∧ H a = some (.ins C dx fs) ∧ sp [x, y] H Q L2.E0
theorem pe_ixOwn {ta tb : TE} (at_ : PySem.W.findIn X.K (.ref C) "__getitem__" = some (some (.ref g))) (fi : PySem.W.fnIn X.K g = true) (fn : PySem.W.isFn X.K (.ref g) = true) (G : FnRD X.prog X.w X.K X.mg X.base j g S) (hr : Room j X.A.in1)
    (ha : PE X a ta) (hb : PE X b tb) (hs : ∀ v u, subscripted b true v u = runValue (.builtin "lifetime.subscript" ⟨[v, u], []⟩)) : PE X (.Subscript a b pos) (tOp (rIxOwn C fun vs H Q E => spD X.K S vs H Q E) ta tb) := by
  refine ⟨fun pins s σ H Q I h => PyProof.Rows.Subscript_ (binT ha hb I h fun v u s2 x y H2 I2 rx ry q => ?_)⟩
  obtain ⟨p, dx, fs, rfl, hp, z⟩ := q
  cases (show v = Value.ref p from rx)
  obtain ⟨ox, od, J⟩ := ins_at I2 hp
  obtain ⟨mm, hF⟩ := I2.fr
  exact PySem.W.sub_K hF I2.ok.mod.kin J at_ fi fn (wpAny_call (SlX.run_at (us := [.ref p, u]) (ws := [.ref p, y]) G hr I2.env0.in1 pass_no I2 (.cons rfl (.cons ry .nil)) z)) (hs _ _)
def dIxOwn (C : Addr) (S : FSpec) (x y : D) (h : AH) (Q : KD) : Prop := isI C x h ∧ S [x, y] h Q (fun _ _ => False)
theorem dIxOwn_ok {K : PySem.W.Frag} (mo : MoF S) : OpD K (rIxOwn C fun vs H Q E => spD K S vs H Q E) (dIxOwn C S) where
  to := by
    rintro F h H x y vx vy Q S0 rx ry ⟨⟨fs, ex⟩, q⟩
    obtain ⟨p, dx, us, rfl, hp, _⟩ := S0.insOf rx ex
    exact ⟨p, dx, us, rfl, hp, F, _, h, S0, .cons rx (.cons ry .nil), mo _ _ _ _ _ _ (fun _ _ z => z) (fun _ _ z => z.elim) q⟩
  mo := fun hq ⟨a, q⟩ => ⟨a, mo _ _ _ _ _ _ hq (fun _ _ z => z) q⟩
theorem ae_ixOwn (c : Cg gz X E k) (at_ : PySem.W.findIn X.K (.ref C) "__getitem__" = some (some (.ref g))) (fi : PySem.W.fnIn X.K g = true) (fn : PySem.W.isFn X.K (.ref g) = true) (G : FnRD X.prog X.w X.K X.mg X.base j g S) (mo : MoF S) (hj : j + 1 ≤ k)
    (ha : AE X E a wa) (hb : AE X E b wb) (hs : ∀ v u, subscripted b true v u = runValue (.builtin "lifetime.subscript" ⟨[v, u], []⟩) := by intro _ _; rfl) : AE X E (.Subscript a b pos) (wOp (dIxOwn C S) wa wb) :=
  ⟨PE.imp (pe_ixOwn at_ fi fn G (Room.in1 (c.room.mono hj)) ha.run hb.run hs) fun σ H Q h => two (dIxOwn_ok mo) ha hb h, mo_op (dIxOwn_ok (K := X.K) mo).mo ha.mo hb.mo⟩
theorem ae_own2 (c : Cg gz X E k) (hc : PySem.W.selfFirst X.K C = true) (hs : PySem.W.findIn X.K (.ref C) (PySem.dunder op.info.2) = some (some (.ref g))) (hf : PySem.W.isFn X.K (.ref g) = true) (G : FnRD X.prog X.w X.K X.mg X.base j g S) (mo : MoF S) (hj : j ≤ k)
    (ha : AE X E a wa) (hb : AE X E b wb) : AE X E (.BinOp a op b pos) (wOp (dOwn2 C S) wa wb) := ae_bin (dOwn2_ok mo) (op_own2 hc hs hf (G.mono hj) c.room) ha hb
def wNegO (C : Addr) (S : FSpec) (wa : WE) : WE := fun ρ h Q X => wa ρ h (fun x h1 => isI C x h1 ∧ S [x] h1 Q (fun _ _ => False)) X
end
end DL
namespace DL
open PySem PySem.Spec L2 C8
section
variable {X : Cx} {E : XK} {gz : Bool} {k : Nat} {a b e o : Expr} {rest : List Expr} {wa wb wo : WE} {pos apos cpos p : Pos} {m : Str} {C g : Addr} {S : FSpec} {j : Nat}
/-- a or b, a of any truth -/
def wOrT (wa wb : WE) : WE := fun ρ h Q X => wa ρ h (fun x h1 => ∃ k, truD h1 x = some k ∧ if k = true then Q x h1 else wb ρ h1 Q X) X
end
end DL
namespace DL
open PySem PySem.Spec L2 C8
/-! ### dict comprehensions -/
def dcD (st : AH → Prop) (g : WG) (tt : WT) (tk tv : WE) (vs : List Nat) (ρ : EnvD) (p : Addr) : List D → AH → (AH → Prop) → Prop
  | [], h, Q => st h ∧ Q h
  | x :: r, h, Q => st h ∧ g x (wipeD ρ vs) h (fun ρ2 h2 => tt ρ2 h2 (fun b h3 => if b = true then tk ρ2 h3 (fun y h4 => tv ρ2 h4 (fun z h5 => ∃ kvs k, keyD y = some k ∧ h5 p = some (.dK kvs) ∧ kvs.length < sizeLine ∧ dcD st g tt tk tv vs ρ p r (up h5 p (.dK (putD kvs k z))) Q) (fun _ _ => False)) (fun _ _ => False)
      else dcD st g tt tk tv vs ρ p r h3 Q) (fun _ _ => False)) (fun _ _ => False)
def endK (m : Bool) (p : Addr) (Q : KD) : AH → Prop := fun h => ∃ kvs, h p = some (.dK kvs) ∧ if m = true then Q (.ref p) h else Q (.dK kvs) (rm h p)
def wDc (m : Bool) (wi : WI) (g : WG) (tt : WT) (tk tv : WE) (vs : List Nat) : WE := fun ρ h Q X => wi ρ h (fun xs st h1 => ∀ p, h1 p = none → dcD st g tt tk tv vs ρ p xs (up h1 p (.dK [])) (endK m p Q)) X
theorem dcD_mo {st : AH → Prop} {g : WG} {tt : WT} {tk tv : WE} {vs : List Nat} {ρ : EnvD} {p : Addr} (mg : MoG g) (mt : MoT tt) (mk : MoE tk) (mv : MoE tv) {Q Q' : AH → Prop} (hq : ∀ h, Q h → Q' h) : ∀ (xs : List D) (h : AH), dcD st g tt tk tv vs ρ p xs h Q → dcD st g tt tk tv vs ρ p xs h Q'
  | [], h, q => ⟨q.1, hq _ q.2⟩
  | x :: r, h, q => ⟨q.1, mg _ _ _ _ _ _ _ (fun ρ2 h2 z => mt _ _ _ _ _ _ (fun b h3 z => by
      split at z
      · rename_i c; rw [if_pos c]
        exact mk _ _ _ _ _ _ (fun y h4 z => mv _ _ _ _ _ _ (fun w h5 ⟨kvs, k, e1, e2, l, z⟩ => ⟨kvs, k, e1, e2, l, dcD_mo mg mt mk mv hq r _ z⟩) (fun _ _ z => z) z) (fun _ _ z => z) z
      · rename_i c; rw [if_neg c]; exact dcD_mo mg mt mk mv hq r _ z) (fun _ _ z => z) z) (fun _ _ z => z) q.2⟩
theorem endK_mo {m : Bool} {p : Addr} {Q Q' : KD} (hq : ∀ d h, Q d h → Q' d h) : ∀ h, endK m p Q h → endK m p Q' h := fun h ⟨acc, e, z⟩ => ⟨acc, e, by
  split at z
  · rename_i c; rw [if_pos c]; exact hq _ _ z
  · rename_i c; rw [if_neg c]; exact hq _ _ z⟩
theorem endK_to {K : PySem.W.Frag} {F : Hp} {h : AH} {H : Hp} {m : Bool} {p : Addr} {Q : VK} (S : Sim K F h H) (q : endK m p (LQ K F Q) h) : Q (.ref p) H := by
  obtain ⟨kvs, e, q⟩ := q
  split at q
  · exact q.at S (.ref p)
  · obtain ⟨f, u, hu, us, rfl, rs⟩ := S.ob _ _ e
    obtain ⟨e2, S2⟩ := S.frz e hu rm_same rm_sub
    exact q _ _ _ e2 S2 (.dK upd_same (rs.ext e2))
section
variable {X : Cx} {E : XK} {gz : Bool} {k : Nat} {kx vx tg iter : Expr} {ifs : List Expr} {scope : Scope} {own : List (Str × Nat)} {pos : Pos} {wi : WI} {g : WG} {gv : TG} {tt : WT} {tk tv : WE}
theorem wipe2 {σ : L2.St} (vs : List Nat) : L2.wipe (L2.wipe σ vs) vs = L2.wipe σ vs := by
  have key : ∀ (us vs : List Nat), (∀ u ∈ us, u ∈ vs) → L2.wipe (L2.wipe σ us) vs = L2.wipe σ vs := by
    intro us
    induction us with
    | nil => intro vs _; rfl
    | cons u us ih =>
      intro vs hu
      show L2.wipe ((L2.wipe σ us).set u none) vs = _
      rw [wipe_set (hu u (List.mem_cons_self ..)), ih vs fun w hw => hu w (List.mem_cons_of_mem _ hw)]
  exact key vs vs fun _ h => h
theorem to_dc {m : Bool} (mi : MoI wi) (mg : MoG g) (mt : MoT tt) (mk : MoE tk) (mv : MoE tv) (gw : GW X.K (own.map (·.2)) g gv) {σ : L2.St} {H : Hp} {Q : VK} (h : tE X.K E (wDc m wi g tt tk tv (own.map (·.2))) σ H Q) :
    tDc (tI X.K E wi) gv (tT X.K L2.E0 tt) (tE X.K L2.E0 tk) (tE X.K L2.E0 tv) (own.map (·.2)) σ H Q := by
  obtain ⟨F, ρ, h0, S, R, q⟩ := h
  refine ⟨F, ρ, h0, S, R, mi _ _ _ _ _ _ (fun xs st h1 z => ?_) (fun _ _ z => z) q⟩
  intro F1 H1 J e1 S1 it D hD
  obtain ⟨f1, g1⟩ := S1.free hD
  have z := z D g1
  refine ⟨fun i n H => n = xs.length - i ∧ i ≤ xs.length ∧ ∃ F2 h2, Ext F1 F2 ∧ Sim X.K F2 h2 H ∧ dcD st g tt tk tv (own.map (·.2)) ρ D (xs.drop i) h2 (endK m D (LQ X.K F2 Q)),
    ⟨xs.length, by simp, Nat.zero_le _, F1, _, .refl _, S1.newM hD (o := .dK []) ⟨[], rfl, .nil⟩, dcD_mo mg mt mk mv (endK_mo fun _ _ z => LQ.ext e1 z) _ _ (by simpa using z)⟩, ?_⟩
  rintro i n H2 ⟨rfl, hi, F2, h2, e2, S2, z2⟩
  by_cases lt : i < xs.length
  · rw [List.drop_eq_getElem_cons lt] at z2
    obtain ⟨hst, z2⟩ := z2
    refine .inr ⟨it.go e2 S2 hst lt, fun H' => ∃ F3 h3, Ext F1 F3 ∧ Sim X.K F3 h3 H' ∧ dcD st g tt tk tv (own.map (·.2)) ρ D (xs.drop (i + 1)) h3 (endK m D (LQ X.K F3 Q)), fun H' p => ⟨xs.length - (i + 1), by omega, rfl, lt, p⟩, fun x H' y => ?_⟩
    obtain ⟨F3, e3, S3, r3⟩ := it.yld e2 S2 hst y (List.getElem?_eq_getElem lt)
    have R3 := (R.ext (e1.trans (e2.trans e3))).wipe (own.map (·.2))
    refine gw.to S3 r3 R3 z2 fun ρ4 σ4 R4 z4 ew => ⟨by rw [ew, wipe2], F3, ρ4, h2, S3, R4, mt _ _ _ _ _ _ (fun b h5 z5 => ?_) (fun _ _ z => z.elim) z4⟩
    intro F5 H5 e5 S5
    split at z5
    · rename_i cb
      rw [if_pos cb]
      refine ⟨F5, ρ4, h5, S5, R4.ext e5, mk _ _ _ _ _ _ (fun y h6 z6 => ?_) (fun _ _ z => z.elim) z5⟩
      intro F6 H6 v6 e6 S6 r6
      refine ⟨F6, ρ4, h6, S6, (R4.ext e5).ext e6, mv _ _ _ _ _ _ (fun w h7 z7 => ?_) (fun _ _ z => z.elim) z6⟩
      intro F7 H7 v7 e7 S7 r7
      obtain ⟨kvs, kk, ek, ea, la, z7⟩ := z7
      obtain ⟨fa, u, hu, us, rfl, rs⟩ := S7.ob _ _ ea
      have eall := e3.trans (e5.trans (e6.trans e7))
      exact ⟨us, kk, keyD_to r6 ek, hu, by rw [← rs.length]; exact la, F7, _, e2.trans eall, S7.put ea (o := .dK (putD kvs kk w)) ⟨_, rfl, rs.put kk r7⟩, dcD_mo mg mt mk mv (endK_mo fun _ _ z => LQ.ext eall z) _ _ z7⟩
    · rename_i cb
      rw [if_neg cb]
      exact ⟨F5, _, e2.trans (e3.trans e5), S5, dcD_mo mg mt mk mv (endK_mo fun _ _ z => LQ.ext (e3.trans e5) z) _ _ z5⟩
  · have e : i = xs.length := by omega
    subst e
    rw [List.drop_length] at z2
    exact .inl ⟨it.stop e2 S2 z2.1 rfl, endK_to S2 z2.2⟩
theorem ae_dc (m : Bool) (c : Cg gz X E k) (hi : AI X E tg iter wi) (ok : BlkOk X.N X.env.scope scope own) (gw : GW X.K (own.map (·.2)) g gv)
    (hg : ∀ (s : Shared) (H : Hp) (C : Addr) (cl : List (Str × Addr)) (fp : List Addr), PG (Blk X scope s H C cl fp) tg gv)
    (ht : ∀ (s : Shared) (H : Hp) (C : Addr) (cl : List (Str × Addr)) (fp : List Addr), Cg gz (Blk X scope s H C cl fp) L2.E0 k → ATs (Blk X scope s H C cl fp) L2.E0 ifs tt)
    (hk : ∀ (s : Shared) (H : Hp) (C : Addr) (cl : List (Str × Addr)) (fp : List Addr), Cg gz (Blk X scope s H C cl fp) L2.E0 k → AE (Blk X scope s H C cl fp) L2.E0 kx tk)
    (he : ∀ (s : Shared) (H : Hp) (C : Addr) (cl : List (Str × Addr)) (fp : List Addr), Cg gz (Blk X scope s H C cl fp) L2.E0 k → AE (Blk X scope s H C cl fp) L2.E0 vx tv)
    (hs : ∀ x, foldedSetIterable iter X.env x = pure x := by intro _; rfl) : AE X E (.DictComp kx vx [⟨tg, iter, ifs, 0⟩] scope pos) (wDc m wi g tt tk tv (own.map (·.2))) := by
  have mg := gw.mo
  have mt := (ht X.s_0 X.H_0 0 [] [] (cg_blk c _ _ _ _ _)).mo
  have mk := (hk X.s_0 X.H_0 0 [] [] (cg_blk c _ _ _ _ _)).mo
  have mv := (he X.s_0 X.H_0 0 [] [] (cg_blk c _ _ _ _ _)).mo
  exact ⟨PE.imp (pe_dc (tt := tT X.K L2.E0 tt) (tk := tE X.K L2.E0 tk) (tv := tE X.K L2.E0 tv) c.calm c.nd hi.run ok hg (fun s H C cl fp => (ht s H C cl fp (cg_blk c s H C cl fp)).run) (fun s H C cl fp => (hk s H C cl fp (cg_blk c s H C cl fp)).run) (fun s H C cl fp => (he s H C cl fp (cg_blk c s H C cl fp)).run) hs) fun σ H Q h => to_dc hi.mo mg mt mk mv gw h,
    fun ρ h Q Q' X X' hq hx q => hi.mo _ _ _ _ _ _ (fun xs st h1 z p hp => dcD_mo mg mt mk mv (endK_mo hq) _ _ (z p hp)) hx q⟩
end
/-! ### x[::-1] of a list -/
theorem Reps.rev {K : PySem.W.Frag} {F : Hp} : ∀ {xs : List D} {vs : List V}, Reps K F xs vs → Reps K F xs.reverse vs.reverse
  | _, _, .nil => .nil
  | _, _, .cons r t => by rw [List.reverse_cons, List.reverse_cons]; exact (Reps.rev t).append (.cons r .nil)
def wRev (m : Bool) (wo : WE) : WE := fun ρ h Q X => wo ρ h (fun x h1 => ∃ xs, lstOf h1 x = some xs ∧ newL m xs.reverse h1 Q) X
theorem ae_rev (m : Bool) {X : Cx} {E : XK} {o : Expr} {wo : WE} {k : Nat} {p1 p2 p3 pos : Pos} (ho : AE X E o wo) : AE X E (.Subscript o (.Slice none none (some (.UnaryOp .USub (.Constant (.int 1) k p1) p2)) p3) pos) (wRev m wo) := by
  refine ⟨PE.imp (pe_revL ho.run) fun σ H Q ⟨F, ρ, h, S0, R, q⟩ => ?_, fun ρ h Q Q' X X' hq hx q => ho.mo _ _ _ _ _ _ (fun x h1 ⟨xs, e1, z⟩ => ⟨xs, e1, newL_mo hq z⟩) hx q⟩
  refine ⟨F, ρ, h, S0, R, ho.mo _ _ _ _ _ _ (fun x h1 z => ?_) (fun _ _ z => z) q⟩
  intro F1 H1 v e1 S1 r
  obtain ⟨xs, ex, z⟩ := z
  obtain ⟨a, vs, rfl, ha, rs⟩ := S1.lstOf r ex
  exact ⟨a, vs, rfl, .of ha, S1.newL rs.rev (newL_mo (fun _ _ z => LQ.ext e1 z) z)⟩
end DL
namespace DL
open PySem PySem.Spec L2 C8 PyProof.Rows
end DL
namespace DL
open PySem PySem.Spec L2 C8 PyProof.Rows
section
variable {X : Cx}
/-- sorted(d), d with int keys, any number of them -/
theorem cr_sortedDK (hcalm : X.calm = true) : CallR X (.builtin "sorted") (fun xs H Q => ∃ (a : Addr) (kvs : List (Key × V)) (ks : List Int), xs = [.ref a] ∧ Rd H a (.dK kvs) ∧ kvs.map (·.1) = ks.map Sum.inl ∧
    ∀ (ys : List Int) (p : Addr), ys.Perm ks → ys.Pairwise (· ≤ ·) → H p = none → Q (.ref p) (upd H p (.lst (ys.map V.int)))) := by
  intro pins s σ H xs us Q I r q
  obtain ⟨a, kvs, ks, ex, hd, hks, q⟩ := q
  subst ex
  obtain ⟨u, eu, rx⟩ := vals1 r
  subst eu
  cases rx
  obtain ⟨z, lo, vs, rel, dd⟩ := dk_rd I.hok hd
  obtain ⟨ep, hat⟩ := dd.dictAt
  have hkeys : vs.map (·.1) = ks.map Sum.inl := rel.keys.symm.trans hks
  have hl : vs.length = ks.length := by
    have e := congrArg List.length hkeys
    rw [List.length_map, List.length_map] at e
    exact e
  have h16 : vs.length ≤ sizeLine := by rw [← Paired.length rel]; exact z
  refine Calls.call_function_entry PyProof.Rows.kind_sorted PyProof.Rows.plain_sorted PyProof.Rows.entry_sorted (PyProof.Rows.args_sorted1 _) ?_
  unfold Builtin.«sorted»
  refine wpAny_bind (m := checkCount "sorted" 1 1 _) (wpAny_pure ?_)
  refine wpAny_bind (PySem.W.kdu_collect (A := X.A.in1) (PySem.W.kdl_dict (knd := mixKind X.prog X.w) (kvs := vs) (ep := ep) lo) (I.ok.hd hcalm) hat h16 fun h' tk acc hk hacc => ?_)
  have hal : acc.toList.length = ks.length := by rw [Array.length_toList, hacc.1, hl]
  have hS : IntsAre acc.toList ks := ints_each hal fun j v e => by
    obtain ⟨k, x, e1, e2⟩ := hacc.2 j v (by rw [← Array.getElem?_toList]; exact e)
    have e3 : (vs.map (·.1))[j]? = some k := by rw [List.getElem?_map, e1]; rfl
    rw [hkeys, List.getElem?_map] at e3
    cases e4 : ks[j]? with
    | none => rw [e4] at e3; cases e3
    | some y =>
      rw [e4] at e3
      have e5 : Sum.inl y = k := Option.some.inj e3
      subst e5
      rcases keyIs_shape (show keyIs (Sum.inl y) v = true from e2) with ⟨i, t, ek, ev⟩ | ⟨z, t, ek, ev⟩
      · cases ek
        exact ⟨y, t, rfl, ev⟩
      · cases ek
  have I1 : Inv X pins σ H { s with heap := h', toks := tk } := I.kept hk
  have hz : acc.toList.length ≤ sizeLine := by rw [hal, ← hl]; exact h16
  refine wpAny_bind (wpAny_newList ?_ hz)
  have hoL : (h'.push (seqObj "list" acc.toList.toArray 0)).get? h'.objs.size = some (seqObj "list" acc.toList.toArray 0) := Heap.get?_push_size _ rfl
  show wpAny _ _ _ _ _ { s with heap := h'.push (seqObj "list" acc.toList.toArray 0), toks := tk }
  refine wpAny_bind (wpAny_holding (wpAny_call_entry PyProof.Rows.slot_list_sort ⟨_, hoL, rfl⟩ PyProof.Rows.entry_list_sort
    (SrtO.list_sort_ord (s := { s with heap := h'.push (seqObj "list" acc.toList.toArray 0), toks := tk }) SrtO.swo_int hoL hz (fun h2 => SrtO.ints_sortable hS h2) fun out g1 g2 => ⟨_, rfl, ?_⟩) (PyProof.Rows.args_list_sort _)))
  obtain ⟨k1, k2, k3⟩ := SrtO.ints_out hS g1 g2
  obtain ⟨e', he'⟩ := PyProof.Rows.sortedHeap_at (vs := acc.toList) (out := out.toArray) hoL
  have hlen : ((out.map SrtO.iv).map V.int).length ≤ sizeLine := by
    rw [List.length_map, k2.length_eq, ← hal]; exact hz
  refine wpAny_pure ⟨_, rfl, .ref h'.objs.size, upd H h'.objs.size (.lst ((out.map SrtO.iv).map V.int)), I1.laid (t' := tk) (fun b u e => ?_) (Nat.le_refl _)
    (show ObjOk X.prog X.w _ _ _ (.lst ((out.map SrtO.iv).map V.int)) from ⟨hlen, out, e', vals_of_ints k1, he'⟩), rfl, q _ _ k2 k3 (I1.hok.fresh (Nat.le_refl _))⟩
  have hb : b < h'.objs.size := Heap.lt_size e
  rw [PyProof.Rows.sortedHeap_old (Nat.ne_of_lt hb) (by rw [size_push']; exact Nat.lt_succ_of_lt hb)]
  exact Heap.get?_push_of_some _ e
end
/-- a key as data -/
def kD : Key → D
  | .inl i => .int i
  | .inr s => .str s
section
variable {K : PySem.W.Frag} {F : Hp} {h : AH} {H : Hp}
theorem kD_rep {F : Hp} (k : Key) : Rep K F (kD k) (kV k) := by
  cases k with
  | inl i => exact .int i
  | inr s => exact .str s
theorem kD_reps {F : Hp} : ∀ (kvs : List (Key × D)) (vs : List (Key × V)), RepK K F kvs vs → Reps K F (kvs.map fun kv => kD kv.1) (vs.map fun kv => kV kv.1)
  | _, _, .nil => .nil
  | _, _, .cons _ t => .cons (kD_rep _) (kD_reps _ _ t)
end
section
variable {X : Cx}
def dSortD (m : Bool) (ds : List D) (h : AH) (Q : KD) : Prop := ∃ (x : D) (kvs : List (Key × D)) (ks : List Int), ds = [x] ∧ dkOf h x = some kvs ∧ kvs.map (·.1) = ks.map Sum.inl ∧ ∀ ys : List Int, ys.Perm ks → ys.Pairwise (· ≤ ·) → newL m (ys.map D.int) h Q
theorem reps_intsD {K : PySem.W.Frag} {F : Hp} : ∀ ns : List Int, Reps K F (ns.map D.int) (ns.map V.int)
  | [] => .nil
  | n :: ns => .cons (.int n) (reps_intsD ns)
theorem dSortD_ok {m : Bool} (hc : X.calm = true) : CaD X (.builtin "sorted") (dSortD m) where
  ex := ⟨_, cr_sortedDK hc, fun {F h H ds vs Q} S r q => by
    obtain ⟨x, kvs, ks, rfl, e, hk, q⟩ := q
    obtain ⟨v, rfl, r1⟩ := r.one
    obtain ⟨a, us, rfl, ha, rs⟩ := S.dkOf r1 e
    exact ⟨a, us, ks, rfl, .of ha, by rw [← rs.keys]; exact hk, fun ys p h1 h2 h3 => S.newL (reps_intsD ys) (q ys h1 h2) p h3⟩⟩
  mo := fun {ds h Q Q'} hq ⟨x, kvs, ks, e, e2, e3, q⟩ => ⟨x, kvs, ks, e, e2, e3, fun ys h1 h2 => newL_mo hq (q ys h1 h2)⟩
/-- list(d): its keys -/
def dListD (m : Bool) (ds : List D) (h : AH) (Q : KD) : Prop := ∃ (x : D) (kvs : List (Key × D)), ds = [x] ∧ dkOf h x = some kvs ∧ newL m (kvs.map fun kv => kD kv.1) h Q
theorem dListD_ok {m : Bool} (hc : X.calm = true) : CaD X (.type "list") (dListD m) where
  ex := ⟨_, call_list_dK hc, fun {F h H ds vs Q} S r q => by
    obtain ⟨x, kvs, rfl, e, q⟩ := q
    obtain ⟨v, rfl, r1⟩ := r.one
    obtain ⟨a, us, rfl, ha, rs⟩ := S.dkOf r1 e
    exact ⟨a, us, rfl, ha, S.newL (kD_reps _ _ rs) q⟩⟩
  mo := fun {ds h Q Q'} hq ⟨x, kvs, e, e2, q⟩ => ⟨x, kvs, e, e2, newL_mo hq q⟩
end
end DL
namespace DL
open PySem PySem.Spec L2 C8 PyProof.Rows
/-! ### dict(t), t a tuple of pairs -/
theorem tuple_keys_none : typeLookup (.type "tuple") "keys" = pure none := am_miss_of_fast (by first | decide +kernel | rfl)
section
variable {prog : Program} {w : World} {A : Around} {E : Value → Shared → Prop}
theorem miss_tuple {s : Shared} {a : Addr} {o : Obj} {xs : Array Value} {k : Nat} {Q : Option Value → Shared → Prop} (hx : s.heap.get? a = some o) (hc : o.cls = .type "tuple") (hdat : o.data = .seq xs k) (hd : o.dict = none) (hA : A.handled = none)
    (h : ∀ h' tk, (∀ b ob, s.heap.get? b = some ob → h'.get? b = some ob) → Q none { s with heap := h', toks := tk }) : wpAny (model prog w) A (getAttr? (.ref a) "keys") Q E s := by
  obtain ⟨c, dct, dat, sl⟩ := o
  simp only at hc hdat hd
  subst hc hdat hd
  obtain ⟨hp, g, d, tk, os⟩ := s
  have hT : ∀ tk', (⟨hp, g, d, tk', os⟩ : Shared).TypeIs (.ref a) "tuple" := fun _ => ⟨_, hx, rfl⟩
  have hmiss := tuple_keys_none
  have hname : (["__module__", "__name__", "__qualname__", "__doc__", "__annotations__"] : List Str).contains "keys" = false := by decide +kernel
  have hsz : ("keys" : Str).length + 100 ≤ sizeLine := by first | size_fits | decide +kernel
  have f1 := sub_AttributeError
  have f3 := PySem.F.slot_tuple_getattribute.lookup
  have f4 := PySem.F.slot_tuple_getattribute.bind (.ref a)
  have f5 := am_tuple_getattr_none
  unfold getAttr? getAttrBy? getAttrBy
  repeat (any_goals (first | assumption | exact hT _ | ((with_reducible show wpAny _ _ (call (Value.builtin "tuple.__getattribute__") _ _) _ _ _); refine call_meets PySem.F.slot_tuple_getattribute (hT _) am_entry_tuple_getattribute (PySem.F.args_tuple_getattribute_2 _ _) (meets_getattribute_miss_tuple a xs k sl "keys" _ hmiss hname hsz) ⟨hx, hA, fun h' tk' e hx' => ?_⟩) | wp_step))
  obtain ⟨t', u', he⟩ := hx'.there
  show wpAny _ _ (getattributeRaised _ _ _ _ _ _ _) _ _ _
  unfold getattributeRaised
  repeat (any_goals (first | assumption | wp_step))
  all_goals first | exact h _ _ hx'.keeps | (dsimp only; repeat (any_goals (first | assumption | exact h _ _ hx'.keeps | wp_step)))
/-- the walk over the pairs -/
theorem upd_loopT {R : Result → Shared → Prop} {S I l : Addr} {items : Array Value} {res : Value} (hh : A.handled = none) (hlI : l ≠ I) (hSI : S ≠ I) (hSl : S ≠ l) :
    ∀ (rest : List (Key × Value)) (i : Nat) (acc : List (Key × Value)) (ix : Int) (t : Tok) (s : Shared), items.size = i + rest.length → acc.length + rest.length ≤ sizeLine →
      (∀ (j : Nat) (q : Key × Value), rest[j]? = some q → ∃ (b : Addr) (u : Value), items[i + j]? = some (.ref b) ∧ b ≠ S ∧ b ≠ I ∧ IsTup s.heap b #[u, q.2] ∧ keyIs q.1 u = true) →
      s.heap.IsTupleIter I l i → s.heap.IsTuple l items → s.heap.DictOf (mixKind prog w) S acc →
      (∀ h' tk, h'.DictOf (mixKind prog w) S (merged acc rest) → (∀ b o, b ≠ S → b ≠ I → s.heap.get? b = some o → h'.get? b = some o) → R (.ok (.ret res)) { s with heap := h', toks := tk }) →
      codeAny (model prog w) A (.builtin "dict.update.loop" ⟨[.ref S, .ref I, .int ix t, res], []⟩) R s
  | [], i, acc, ix, t, s, hsz, hln, ht, hit, hl, hm, hR => by
    refine codeAny_builtin ud_entry ?_
    rw [Around.under_plainId ud_plain _]
    show wpAny _ A.in1 (pyNext (.ref I) >>= _) _ _ s
    refine wpAny_bind (wpAny_pyNext_tuple_end (A := A.in1) hh hit hl (by first | exact Array.getElem?_eq_none (Nat.le_of_eq hsz) | (simp at hsz; simp; omega)) fun h' he => ?_)
    show wpAny _ A.in1 (Builtin.Dict.addKeywords S [] >>= _) _ _ _
    refine wpAny_bind (wpAny_pure (wpAny_pure ?_))
    exact hR h' s.toks (hm.extBut he hSI) fun b o _ hb e => he b o hb e
  | q :: rest, i, acc, ix, t, s, hsz, hln, ht, hit, hl, hm, hR => by
    obtain ⟨b, u, hb, hbS, hbI, htup, hk⟩ := ht 0 q rfl
    rw [List.length_cons] at hsz hln
    refine codeAny_builtin ud_entry ?_
    rw [Around.under_plainId ud_plain _]
    show wpAny _ A.in1 (pyNext (.ref I) >>= _) _ _ s
    refine wpAny_bind (wpAny_pyNext_tuple_item (x := .ref b) hit hl (by simpa using hb) fun h1 hit1 hs1 => ?_)
    have ht1 : IsTup h1 b #[u, q.2] := htup.extBut hs1.extBut hbI
    have hl1 : h1.IsTuple l items := hl.extBut hs1.extBut hlI
    have hm1 : h1.DictOf (mixKind prog w) S acc := hm.extBut hs1.extBut hSI
    obtain ⟨o, ho, hc, n, hd⟩ := id ht1
    show wpAny _ A.in1 (holding [Value.ref b] _ >>= _) _ _ _
    refine wpAny_bind (wpAny_holding ?_)
    refine wpAny_bind (wpAny_tryCatch ?_)
    unfold Builtin.Dict.pairItems
    refine wpAny_bind (wpAny_typeOf (T := "tuple") ⟨o, ho, hc⟩ ?_)
    rw [if_pos (by first | decide | rfl | simp)]
    refine wpAny_bind (wpAny_seqItems ho hd (wpAny_pure ?_))
    show wpAny _ A.in1 (holding [u, q.2] (dictSet S u q.2)) _ _ _
    refine wpAny_holding (wpAny_dictSet_pairs (knd := mixKind prog w) (k := q.1) hk hm1 (fun h2 hm2 hs2 => ?_) (by omega))
    refine wpAny_pure ⟨plainId_quiet ud_plain _, upd_loopT (items := items) hh hlI hSI hSl rest (i + 1) (stored acc q.1 q.2) (ix + 1) 0 _ (show items.size = i + 1 + rest.length by omega) ?_ (fun j q' e => ?_) ?_ ?_ hm2 fun h' tk hd' k => ?_⟩
    · have z := stored_length_le acc q.1 q.2
      omega
    · obtain ⟨b', u', hb', hbS', hbI', htup', hk'⟩ := ht (j + 1) q' (by simpa using e)
      refine ⟨b', u', ?_, hbS', hbI', (htup'.extBut hs1.extBut hbI').extBut hs2.extBut hbS', hk'⟩
      rw [show i + 1 + j = i + (j + 1) by omega]
      exact hb'
    · exact (Heap.IsTupleIter.extBut hit1 hs2.extBut (Ne.symm hSI))
    · exact hl1.extBut hs2.extBut (Ne.symm hSl)
    · exact hR h' tk hd' fun c oc h3 h4 e => k c oc h3 h4 (hs2.extBut c oc h3 (hs1.extBut c oc h4 e))
theorem call_dict_pairsT {s : Shared} {l : Addr} {ol : Obj} {items : Array Value} {n : Nat} {prs : List (Key × Value)} {Q : Value → Shared → Prop} (hh : A.handled = none) (hl : s.heap.get? l = some ol) (hc : ol.cls = .type "tuple") (hd : ol.dict = none)
    (hdat : ol.data = .seq items n) (hsz : items.size = prs.length) (hln : prs.length ≤ sizeLine)
    (ht : ∀ (j : Nat) (q : Key × Value), prs[j]? = some q → ∃ (b : Addr) (u : Value), items[j]? = some (.ref b) ∧ IsTup s.heap b #[u, q.2] ∧ keyIs q.1 u = true)
    (h : ∀ h' tk, h'.DictOf (mixKind prog w) s.heap.objs.size (merged [] prs) → (∀ b o, s.heap.get? b = some o → h'.get? b = some o) → Q (.ref s.heap.objs.size) { s with heap := h', toks := tk }) :
    wpAny (model prog w) A (call (.type "dict") [.ref l]) Q E s := by
  refine callType_codes (Q₁ := fun obj s₁ => obj = .ref s.heap.objs.size ∧ s₁ = { s with heap := s.heap.push { cls := .type "dict", data := .dict #[] } }) PySem.F.kt_called_dict (PySem.F.kt_typeCall_dict_1 _) PySem.F.entry_dict_init (kt_code_dict_new _ ⟨rfl, rfl⟩) ?_
  rintro obj s₁ ⟨rfl, rfl⟩
  have hnew : (s.heap.push { cls := .type "dict", data := .dict #[] }).DictOf (mixKind prog w) s.heap.objs.size [] := Heap.DictOf.new s.heap
  have k0 : ∀ b o, s.heap.get? b = some o → (s.heap.push { cls := .type "dict", data := .dict #[] }).get? b = some o := fun b o e => Heap.get?_push_of_some _ e
  refine ⟨hnew.typeIs, PySem.F.args_dict_init_2 _ _, ?_⟩
  unfold Builtin.«dict.__init__»
  refine wpAny_bind ?_
  unfold Builtin.Dict.selfAndRest
  refine wpAny_bind (wpAny_notOrdered_dict hnew.typeIs ?_)
  show wpAny _ _ (pure (s.heap.objs.size, [Value.ref l])) _ _ _
  refine wpAny_pure ?_
  show wpAny _ _ (Builtin.Dict.updateFrom "dict.__init__" s.heap.objs.size (.ref l) [] .none) _ _ _
  unfold Builtin.Dict.updateFrom
  refine wpAny_bind (wpAny_typeOf (T := "tuple") ⟨ol, k0 _ _ hl, hc⟩ ?_)
  rw [if_pos (by first | decide | rfl | simp)]
  refine wpAny_bind (miss_tuple (k0 _ _ hl) hc hdat hd hh fun h1 tk1 hk1 => ?_)
  rw [if_pos (show (none : Option Value).isNone = true from rfl)]
  refine wpAny_bind (wpAny_rule ?_)
  have hl1 : h1.IsTuple l items := ⟨ol, hk1 _ _ (k0 _ _ hl), hc, n, hdat⟩
  have hS1 : s.heap.objs.size < h1.objs.size := by
    have e : (s.heap.push { cls := .type "dict", data := .dict #[] }).get? s.heap.objs.size = some { cls := .type "dict", data := .dict #[] } := Heap.get?_push_size _ rfl
    exact Heap.lt_size (hk1 _ _ e)
  refine wpAny_bind (wpAny_pyIter_tuple hl1 ?_)
  have k2 : ∀ b o, h1.get? b = some o → (h1.push { cls := .type "tuple_iterator", data := .fields #[.ref l, .int 0 0] }).get? b = some o := fun b o e => Heap.get?_push_of_some _ e
  have hlt : l < s.heap.objs.size := Heap.lt_size hl
  have key := upd_loopT (prog := prog) (w := w) (A := A.in1) (R := wants (fun r s₂ => r = .none ∧ Q (.ref s.heap.objs.size) s₂) E) (S := s.heap.objs.size) (I := h1.objs.size) (l := l) (items := items) (res := Value.none) hh
    (Nat.ne_of_lt (Nat.lt_trans hlt hS1)) (Nat.ne_of_lt hS1) (Nat.ne_of_gt hlt) prs 0 [] 0 0
    { s with heap := h1.push { cls := .type "tuple_iterator", data := .fields #[.ref l, .int 0 0] }, toks := tk1 } (by rw [hsz, Nat.zero_add]) (by rw [List.length_nil, Nat.zero_add]; exact hln)
    (fun j q e => by
      obtain ⟨b, u, e1, e2, e3⟩ := ht j q e
      have hb : b < s.heap.objs.size := e2.lt
      exact ⟨b, u, by rw [Nat.zero_add]; exact e1, Nat.ne_of_lt hb, Nat.ne_of_lt (Nat.lt_trans hb hS1), e2.keeps fun c o z => k2 _ _ (hk1 _ _ (k0 _ _ z)), e3⟩)
    ⟨_, Heap.get?_push_size _ rfl, rfl, rfl⟩ (hl1.push _) ((hnew.at fun o e => hk1 _ _ e).at fun o e => k2 _ _ e)
    (fun h' tk hd' k => ⟨rfl, h h' tk hd' fun b o e => k b o (Nat.ne_of_lt (Heap.lt_size e)) (Nat.ne_of_lt (Nat.lt_trans (Heap.lt_size e) hS1)) (k2 _ _ (hk1 _ _ (k0 _ _ e)))⟩)
  first
    | exact wpAny_pure ⟨plainId_quiet ud_plain _, key⟩
    | exact wpAny_bind (wpAny_pure (wpAny_pure ⟨plainId_quiet ud_plain _, key⟩))
end
end DL
namespace DL
open PySem PySem.Spec L2 C8 PyProof.Rows
section
variable {X : Cx}
def rDictP : List V → Hp → VK → Prop := fun xs H Q => ∃ (a : Addr) (ob : Obj) (ps : List Addr) (kvs : List (Key × V)), xs = [.ref a] ∧ H a = some (.frz ob (.tup (ps.map V.ref))) ∧ ob.dict = none ∧ Paired (fun p kv => SqT X.K H p [kV kv.1, kv.2]) ps kvs ∧
    ∀ p, H p = none → Q (.ref p) (upd H p (.dK (mergeK [] kvs)))
theorem cr_dictP (hcalm : X.calm = true) : CallR X (.type "dict") (rDictP (X := X)) := by
  intro pins s σ H xs us Q I r q
  obtain ⟨a, ob, ps, kvs, ex, hq, hd, hp, q⟩ := q
  subst ex
  obtain ⟨u, eu, rx⟩ := vals1 r
  subst eu
  cases rx
  obtain ⟨hob, hz, its, rv, ot, hot, hc, n, hdat⟩ := (show ObjOk X.prog X.w H s.heap a (.frz ob (.tup (ps.map V.ref))) from I.hok a _ hq)
  rw [hob] at hot
  cases hot
  have ei := refs_at rv
  subst ei
  rw [List.length_map] at hz
  obtain ⟨prs, rel, hl, hpr⟩ := pairs_of I hp
  refine call_dict_pairsT (prs := prs) (I.ok.hd hcalm) hob hc hd hdat (by simp [hl]) (by rw [hl]; exact hz) (fun j q' e => ?_) fun h' tk hd' k => ?_
  · obtain ⟨b, u, e1, e2, e3⟩ := hpr j q' e
    exact ⟨b, u, by simp [e1], e2, e3⟩
  · have hm : (s.heap.objs.size == sysModules) = false := beq_eq_false_iff_ne.mpr (Nat.ne_of_gt I.big)
    have hlen : (mergeK [] kvs).length ≤ sizeLine := by
      refine Nat.le_trans (length_mergeK kvs []) ?_
      rw [List.length_nil, Nat.zero_add, rel.length, hl]
      exact hz
    exact ⟨.ref s.heap.objs.size, upd H s.heap.objs.size (.dK (mergeK [] kvs)), I.laid (t' := tk) k (Nat.le_refl _) (show ObjOk X.prog X.w _ _ _ (.dK (mergeK [] kvs)) from ⟨hlen, hm, merged [] prs, KV.merge rel .nil, hd'⟩), rfl, q _ (I.hok.fresh (Nat.le_refl _))⟩
/-- tuple(l), l a list: a tuple whose object is known -/
theorem cr_tupP : CallR X (.type "tuple") (fun xs H Q => ∃ (p : Addr) (ys : List V), xs = [.ref p] ∧ SqL X.K H p ys ∧ ∀ q ob, H q = none → ob.dict = none → Q (.ref q) (upd H q (.frz ob (.tup ys)))) := by
  intro pins s σ H xs us Q I r q
  obtain ⟨p, ys, rfl, hs, q⟩ := q
  rw [Vals.ref1 r]
  obtain ⟨its, rv, pl, hz⟩ := I.list hs
  refine call_tuple_list pl.isList (fun h' hk => ?_) (by rw [List.size_toArray, ← rv.length]; exact hz)
  have I1 : Inv X pins σ H { s with heap := h' } := I.kept (t' := s.toks) hk
  have I2 : Inv X pins σ (upd H h'.objs.size (.frz { cls := .type "tuple", data := .seq its.toArray } (.tup ys))) { s with heap := h'.push { cls := .type "tuple", data := .seq its.toArray } } :=
    I1.laid (t' := s.toks) (fun b o e => Heap.get?_push_of_some _ e) (Nat.le_refl _) (show ObjOk X.prog X.w _ _ _ (.frz _ (.tup ys)) from ⟨Heap.get?_push_size _ rfl, hz, its, rv, IsTup.new _ _⟩)
  exact ⟨.ref h'.objs.size, _, I2, rfl, q _ _ (I1.hok.fresh (Nat.le_refl _)) rfl⟩
def dTupP (ds : List D) (h : AH) (Q : KD) : Prop := ∃ x xs, ds = [x] ∧ lstOf h x = some xs ∧ Q (.tpl xs) h
theorem dTupP_ok : CaD X (.type "tuple") dTupP where
  ex := ⟨_, cr_tupP, fun {F h H ds vs Q} S r q => by
    obtain ⟨x, xs, rfl, e, q⟩ := q
    obtain ⟨v, rfl, r1⟩ := r.one
    obtain ⟨a, us, rfl, ha, rs⟩ := S.lstOf r1 e
    refine ⟨a, us, rfl, .of ha, fun p ob hp hd => ?_⟩
    obtain ⟨f, g⟩ := S.free hp
    exact q _ _ _ (ext_upd f) (S.newF hp _) (.tpl upd_same hd (rs.ext (ext_upd f)))⟩
  mo := fun {ds h Q Q'} hq ⟨x, xs, e, e2, q⟩ => ⟨x, xs, e, e2, hq _ _ q⟩
/-- the dict of pairs, later ones win -/
def mergeD (es : List (Key × D)) : List (Key × D) := es.foldl (fun acc e => putD acc e.1 e.2) []
theorem repk_merge {K : PySem.W.Frag} {F : Hp} : ∀ {es : List (Key × D)} {vs : List (Key × V)} {acc : List (Key × D)} {av : List (Key × V)}, RepK K F acc av → RepK K F es vs → RepK K F (es.foldl (fun acc e => putD acc e.1 e.2) acc) (mergeK av vs)
  | _, _, _, _, r, .nil => r
  | _, _, acc, av, r, .cons h t => by
    show RepK K F (List.foldl _ (putD acc _ _) _) (mergeK (putK av _ _) _)
    exact repk_merge (r.put _ h) t
def pairKD (e : Key × D) : D := .tup [kD e.1, e.2]
def dDictP (m : Bool) (ds : List D) (h : AH) (Q : KD) : Prop := ∃ es : List (Key × D), ds = [.tpl (es.map pairKD)] ∧ if m = true then ∀ p, h p = none → Q (.ref p) (up h p (.dK (mergeD es))) else Q (.dK (mergeD es)) h
theorem pairs_rep {K : PySem.W.Frag} {F : Hp} : ∀ (es : List (Key × D)) (us : List V), Reps K F (es.map pairKD) us → ∃ (ps : List Addr) (kvs : List (Key × V)), us = ps.map V.ref ∧ RepK K F es kvs ∧ Paired (fun p kv => SqT K F p [kV kv.1, kv.2]) ps kvs
  | [], _, .nil => ⟨[], [], rfl, .nil, .nil⟩
  | e :: es, _, .cons h t => by
    obtain ⟨ps, kvs, rfl, r, p⟩ := pairs_rep es _ t
    cases h with
    | @tup a _ vs hs rs =>
      cases rs with
      | cons r1 r2 =>
        cases r2 with
        | cons r2 r3 =>
          cases r3
          have ev : ∀ {k : Key} {v : V}, Rep K F (kD k) v → v = kV k := fun {k v} r => by cases k <;> (cases r; rfl)
          rw [ev r1] at hs
          exact ⟨a :: ps, (e.1, _) :: kvs, rfl, .cons r2 r, .cons hs p⟩
theorem Paired.imp {α β : Type} {F G : α → β → Prop} (h : ∀ a b, F a b → G a b) : ∀ {xs : List α} {ys : List β}, Paired F xs ys → Paired G xs ys
  | _, _, .nil => .nil
  | _, _, .cons p t => .cons (h _ _ p) (Paired.imp h t)
theorem dDictP_ok {m : Bool} (hc : X.calm = true) : CaD X (.type "dict") (dDictP m) where
  ex := ⟨_, cr_dictP hc, fun {F h H ds vs Q} S r q => by
    obtain ⟨es, rfl, q⟩ := q
    obtain ⟨v, rfl, r1⟩ := r.one
    cases r1 with
    | @tpl a ob xs us hf hd rs =>
      obtain ⟨ps, kvs, rfl, rk, pr⟩ := pairs_rep es _ rs
      refine ⟨a, ob, ps, kvs, rfl, S.fz _ _ hf, hd, Paired.imp (fun _ _ z => sqt_of S.fz z) pr, fun p hp => ?_⟩
      obtain ⟨f, g⟩ := S.free hp
      have rm := repk_merge (acc := []) .nil rk
      cases m with
      | true =>
        rw [if_pos rfl] at q
        exact q p g F _ _ (.refl F) (S.newM hp ⟨_, rfl, rm⟩) (.ref p)
      | false =>
        rw [if_neg (by decide)] at q
        exact q _ _ _ (ext_upd f) (S.newF hp _) (.dK upd_same (rm.ext (ext_upd f)))⟩
  mo := fun {ds h Q Q'} hq ⟨es, e, q⟩ => ⟨es, e, by
    split at q
    · rename_i c; rw [if_pos c]; exact fun p hp => hq _ _ (q p hp)
    · rename_i c; rw [if_neg c]; exact hq _ _ q⟩
end
end DL
namespace DL
open PySem PySem.Spec L2 C8
/-! ### a dict written out; an empty one that does not change -/
section
variable {X : Cx} {E : XK} {pos : Pos}
def wDnewF : WE := fun _ h Q _ => Q (.dK []) h
theorem ae_dnewF : AE X E (.Dict [] [] pos) wDnewF := by
  refine ⟨PE.imp pe_dnewK fun σ H Q ⟨F, ρ, h, S, R, q⟩ => ?_, fun ρ h Q Q' X X' hq _ q => hq _ _ q⟩
  intro p hp
  obtain ⟨f, g⟩ := S.free hp
  exact q _ _ _ (ext_upd f) (S.newF hp (.dK [])) (.dK upd_same .nil)
theorem RepK.len {K : PySem.W.Frag} {F : Hp} {kvs : List (Key × D)} {vs : List (Key × V)} (r : RepK K F kvs vs) : kvs.length = vs.length := by
  induction kvs generalizing vs with
  | nil => cases r; rfl
  | cons x xs ih => cases r with | cons h t => rw [List.length_cons, List.length_cons, ih t]
end
end DL
namespace DL
open PySem PySem.Spec L2 C8
/-! ### repr of data within which empty dicts may stand -/
mutual
def pq : D → PyData
  | .non => .none
  | .bl b => .bool b
  | .int i => .int i
  | .str s => .str s
  | .tup xs => .tuple (pqs xs)
  | .tpl xs => .tuple (pqs xs)
  | .lst xs => .list (pqs xs)
  | .ref _ => .none
  | .ty _ => .none
  | .lk _ => .none
  | .ob _ _ => .none
  | .xob _ _ => .none
  | .lam _ _ _ _ _ => .none
  | .dK _ => .dict []
  | .dT _ => .none
def pqs : List D → List PyData
  | [] => []
  | x :: xs => pq x :: pqs xs
end
mutual
def dq : D → Bool
  | .non => true
  | .bl _ => true
  | .int _ => true
  | .str _ => true
  | .tup xs => dqs xs
  | .tpl xs => dqs xs
  | .lst xs => dqs xs
  | .ref _ => false
  | .ty _ => false
  | .lk _ => false
  | .ob _ _ => false
  | .xob _ _ => false
  | .lam _ _ _ _ _ => false
  | .dK kvs => kvs.isEmpty
  | .dT _ => false
def dqs : List D → Bool
  | [] => true
  | x :: xs => dq x && dqs xs
end
end DL
namespace PySem.W
open PySem PySem.Spec PySem.Calls PyProof.Rows
section
variable {prog : Program} {w : World} {A : Around} {E : Value → Shared → Prop} {s : Shared}
theorem rc_lens {l b : Addr} {items items2 : Array Value} {Q : Value → Shared → Prop} (hl : s.heap.IsList l items) (hb : s.heap.IsList b items2) (hsz : items.size ≠ items2.size) (hu : A.units < cLine)
    (h : Q (.bool false) s) : wpAny (model prog w) A (richCompare .Eq (.ref l) (.ref b)) Q E s := by
  obtain ⟨⟨cls, dd, data, sl⟩, ho, hc, n, hd⟩ := id hl
  obtain ⟨⟨cls2, dd2, data2, sl2⟩, ho2, hc2, n2, hd2⟩ := id hb
  simp only at hc hd hc2 hd2
  subst hc hd hc2 hd2
  exact wpAny_richCompare_same_room (T := "list") (op := .Eq) ⟨_, ho, rfl⟩ ⟨_, ho2, rfl⟩ F.slot_list_eq (call_meets F.slot_list_eq ⟨_, ho, rfl⟩ F.entry_list_eq (F.args_list_eq_2 _ _) (SeqAt.list_eq_lengthsAt l b items items2 n n2 dd dd2 sl sl2 (by simpa using hsz))
    ⟨ho, ho2, show Value.bool false ≠ Value.notImplemented ∧ Q (.bool false) s from ⟨(fun x => nomatch x), h⟩⟩) hu
end
end PySem.W
namespace DL
open PySem PySem.Spec L2 C8
theorem vals_size {xs : List V} {us : List Value} (r : Vals xs us) : us.toArray.size = xs.length := by rw [r.length]; simp
/-- x == [], x == (): by length alone -/
def rEqE (K : PySem.W.Frag) : R2 := fun x y H Q => ∃ a b xs, x = .ref a ∧ y = .ref b ∧ ((SqL K H a xs ∧ SqL K H b []) ∨ (SqT K H a xs ∧ SqT K H b [])) ∧ Q (.bl xs.isEmpty) H
theorem op_eqE {X : Cx} (hu : X.A.units + 64 < cLine) : OpR X (compareOp .Eq) (rEqE X.K) := by
  intro pins s σ H x y v u Q I rx ry h
  obtain ⟨a, b, xs, rfl, rfl, hq, q⟩ := h
  cases rx; cases ry
  have fin : EP X pins σ Q (.bool xs.isEmpty) s := ⟨.bl _, H, I, rfl, q⟩
  rcases hq with ⟨h1, h2⟩ | ⟨h1, h2⟩
  · obtain ⟨its, rv, p, _⟩ := I.list h1
    obtain ⟨its2, rv2, p2, _⟩ := I.list h2
    have z1 := vals_size rv
    have z2 := vals_size rv2
    cases xs with
    | nil => exact PySem.SeqAt.rcIn_lists (e := fun _ => true) p.isList p2.isList (by rw [z1, z2]) (by omega) (fun j g1 g2 => by rw [z1] at g1; cases g1) (by rw [z1]; exact fin)
    | cons x xs => exact PySem.W.rc_lens p.isList p2.isList (by rw [z1, z2]; simp) (by omega) fin
  · obtain ⟨its, rv, p, _⟩ := I.tuple h1
    obtain ⟨its2, rv2, p2, _⟩ := I.tuple h2
    have z1 := vals_size rv
    have z2 := vals_size rv2
    refine PySem.SeqAt.rcIn_tuples (e := fun _ => true) p p2 (by omega) (fun j g1 g2 => by rw [z2] at g2; cases g2) ?_
    rw [z1, z2]
    cases xs with
    | nil => exact fin
    | cons x xs => exact fin
def dEqE (x y : D) (h : AH) (Q : KD) : Prop := match y with
  | .lst [] => ∃ xs, lstOf h x = some xs ∧ Q (.bl xs.isEmpty) h
  | .tup [] => ∃ xs, (x = .tup xs ∨ x = .tpl xs) ∧ Q (.bl xs.isEmpty) h
  | _ => False
theorem reps_emp {K : PySem.W.Frag} {F : Hp} {xs : List D} {vs : List V} (r : Reps K F xs vs) : vs.isEmpty = xs.isEmpty := by cases r <;> rfl
theorem dEqE_ok {K : PySem.W.Frag} : OpD K (rEqE K) dEqE where
  to := by
    intro F h H x y vx vy Q S rx ry q
    unfold dEqE at q
    split at q
    · obtain ⟨xs, e, q⟩ := q
      obtain ⟨a, vs, rfl, ha, rs⟩ := S.lstOf rx e
      cases ry with
      | @lst b _ ws hb rb =>
        cases rb
        exact ⟨a, b, vs, rfl, rfl, .inl ⟨.of ha, .of (S.fz _ _ hb)⟩, by rw [reps_emp rs]; exact q.at S (.bl _)⟩
    · obtain ⟨xs, e, q⟩ := q
      cases ry with
      | @tup b _ ws hb rb =>
        cases rb
        rcases e with rfl | rfl
        · cases rx with
          | @tup a _ vs ha rs => exact ⟨a, b, vs, rfl, rfl, .inr ⟨sqt_of S.fz ha, sqt_of S.fz hb⟩, by rw [reps_emp rs]; exact q.at S (.bl _)⟩
        · cases rx with
          | @tpl a _ _ vs ha hd rs => exact ⟨a, b, vs, rfl, rfl, .inr ⟨sqt_of S.fz (.inl (.inr ⟨_, ha⟩)), sqt_of S.fz hb⟩, by rw [reps_emp rs]; exact q.at S (.bl _)⟩
    · exact q.elim
  mo := by
    intro x y h Q Q' hq q
    unfold dEqE at *
    split at q
    · obtain ⟨xs, e, q⟩ := q; exact ⟨xs, e, hq _ _ q⟩
    · obtain ⟨xs, e, q⟩ := q; exact ⟨xs, e, hq _ _ q⟩
    · exact q
section
variable {X : Cx} {E : XK} {gz : Bool} {k : Nat} {a b : Expr} {wa wb : WE} {pos : Pos}
theorem ae_eqE (c : Cg gz X E k) (ha : AE X E a wa) (hb : AE X E b wb) : AE X E (.Compare a [.Eq] [b] pos) (wOp dEqE wa wb) := ae_cmp dEqE_ok (op_eqE c.room.units) ha hb
end
end DL
namespace DL
open PySem PySem.Spec L2 C8
/-! ### the draw of the laws k01-k11, k47-k57, k96-k99 -/
end DL
namespace DL
open PySem PySem.Spec L2 C8 PyProof.Rows
/-! ### max(d, default=x), d with int keys -/
section
variable {X : Cx}
def rMaxDd : List V → List V → Hp → VK → Prop := fun xs zs H Q => ∃ (a : Addr) (z : V) (kvs : List (Key × V)) (ks : List Int), xs = [.ref a] ∧ zs = [z] ∧ H a = some (.dK kvs) ∧ kvs.map (·.1) = ks.map Sum.inl ∧ (ks = [] → Q z H) ∧ ∀ m, m ∈ ks → (∀ y ∈ ks, y ≤ m) → Q (.int m) H
theorem cr_maxDd (hc : X.calm = true) : CallRK X (.builtin "max") ["default"] (rMaxDd) := by
  intro pins s σ H xs zs us ws Q I r rz h
  obtain ⟨a, z, kvs, ks, rfl, rfl, ha, hks, q0, q1⟩ := h
  obtain rfl := Vals.ref1 r
  obtain ⟨zv, rfl, rzv⟩ := vals1 rz
  obtain ⟨zl, lo, vs, rel, dd⟩ := (show ObjOk X.prog X.w H s.heap a (.dK kvs) from I.hok a _ ha)
  obtain ⟨ep, hat⟩ := dd.dictAt
  have hkeys : vs.map (·.1) = ks.map Sum.inl := (KV.keys rel).symm.trans hks
  have hl : vs.length = ks.length := by
    have e := congrArg List.length hkeys
    rw [List.length_map, List.length_map] at e
    exact e
  have hlt : a < s.heap.objs.size := hat.lt_size
  have pv : ∀ (i : Nat) (v : Value), (∃ k x, vs[i]? = some (k, x) ∧ (mixKind X.prog X.w).is k v = true) → ∃ t, v = .int (ks.getD i 0) t := fun i v ⟨k, x, e1, e2⟩ => by
    have e3 : (vs.map (·.1))[i]? = some k := by rw [List.getElem?_map, e1]; rfl
    rw [hkeys, List.getElem?_map] at e3
    cases e4 : ks[i]? with
    | none => rw [e4] at e3; cases e3
    | some y =>
      rw [e4] at e3
      have e5 : Sum.inl y = k := Option.some.inj e3
      subst e5
      rcases keyIs_shape (show keyIs (Sum.inl y) v = true from e2) with ⟨i, t, ek, ev⟩ | ⟨z, t, ek, ev⟩
      · cases ek
        exact ⟨t, by rw [ev, List.getD_eq_getElem?_getD, e4]; rfl⟩
      · cases ek
  show wpAny _ _ (call (.builtin "max") [.ref a] [(Str.ofString "default", zv)]) _ _ _
  refine call_max_walkD (wpAny_pyIter_dict lo hat ?_)
  refine ⟨s.heap.objs.size, _, _, _, vs.length, _, _, s.heap, (fun i j => decide (ks.getD i 0 > ks.getD j 0)), rfl, (Walks.dictKeys (A := X.A.in1) (knd := mixKind X.prog X.w) (I.ok.hd hc) s.heap.objs.size a (Nat.ne_of_lt hlt) vs ep).toS, ⟨⟨_, Heap.get?_push_size _ rfl, rfl, rfl⟩, hat.push _⟩, fun b hb => ?_, fun b o e hb => ?_, fun b o e => Heap.get?_push_of_some _ e, fun hn s' hm => ?_, fun hn => ⟨fun i j vi vj s Q E _ h1 h2 h3 => CmpOf.ints_gt (fun i => ks.getD i 0) pv i j vi vj s Q E h1 h2 h3, fun v s' hP hm => ?_⟩⟩
  · show b < (s.heap.push _).objs.size
    rw [Heap.size_push]
    rcases List.mem_cons.mp hb with rfl | hb
    · exact Nat.lt_succ_self _
    · rcases List.mem_cons.mp hb with rfl | hb
      · exact Nat.lt_succ_of_lt hlt
      · cases hb
  · exact absurd (Heap.lt_size e) ((List.mem_singleton.mp hb) ▸ Nat.lt_irrefl _)
  · obtain ⟨h', tk, rfl, hk'⟩ := PySem.W.moved_old rfl rfl hm
    exact ⟨z, H, I.kept hk', rzv, q0 (List.eq_nil_of_length_eq_zero (by omega))⟩
  · obtain ⟨h', tk, rfl, hk'⟩ := PySem.W.moved_old rfl rfl hm
    obtain ⟨t, rfl⟩ := pv _ v hP
    obtain ⟨h1, h2⟩ := argBest_gt (fun i => ks.getD i 0) (vs.length - 1)
    refine ⟨.int _, H, I.kept hk', ⟨t, rfl⟩, q1 _ ?_ fun y hy => ?_⟩
    · exact PySem.getD_mem (by omega)
    · obtain ⟨j, hj, rfl⟩ := mem_getD hy
      exact h2 j (by omega)
end
section
variable {X : Cx} {E : XK} {gz : Bool} {k : Nat} {o e : Expr} {wo wv : WE} {pos p kpos : Pos}
def wMaxDd (wl wk : WA) : WE := fun ρ h Q X => wl ρ h (fun xs h1 => wk ρ h1 (fun zs h2 => ∃ (x z : D) (kvs : List (Key × D)) (ks : List Int), xs = [x] ∧ zs = [z] ∧ dkOf h2 x = some kvs ∧ kvs.map (·.1) = ks.map Sum.inl ∧ (ks = [] → Q z h2) ∧ ∀ m, m ∈ ks → (∀ y ∈ ks, y ≤ m) → Q (.int m) h2) X) X
theorem ae_maxDd {wl wk : WA} (hm : X.mg "max" = none) (c : Cg gz X E k) (A1 : AA X E [o] wl) (A2 : AK X E [⟨some "default", e, kpos⟩] wk) (hg : Gl X "max" := by rfl)
    (he : backTo pos (starEach [o] X.env) = (false, eval o X.env) :: backTo pos (starEach [] X.env) := by rfl) (hpl : (backTo pos (starEach [o] X.env)).any (·.1) = false := by rfl)
    (hall : (backToKw pos (keywordEach [⟨some "default", e, kpos⟩] X.env)).all (·.1.isSome) = true := by rfl) (hnone : (backToKw pos (keywordEach [⟨some "default", e, kpos⟩] X.env)).any (·.1.isNone) = false := by rfl) (hks : (backToKw pos (keywordEach [⟨some "default", e, kpos⟩] X.env)).filterMap (·.1) = [("default" : Str)] := by rfl) :
    AE X E (.Call (.Name "max" p) [o] [⟨some "default", e, kpos⟩] pos) (wMaxDd wl wk) := by
  refine ⟨PE.imp (pe_callBK (cr_maxDd c.calm) hg hm bb_max A1.run A2.run (he := he) (hpl := hpl) (hall := hall) (hnone := hnone) (hks := hks)) fun σ H Q ⟨F, ρ, h, S, R, q⟩ => ?_, fun ρ h Q Q' X X' hq hx q => A1.mo _ _ _ _ _ _ (fun xs h1 z => A2.mo _ _ _ _ _ _ (fun zs h2 ⟨x, y, kvs, ks, e1, e2, e3, e4, z1, z2⟩ => ⟨x, y, kvs, ks, e1, e2, e3, e4, fun e => hq _ _ (z1 e), fun m h1 h2 => hq _ _ (z2 m h1 h2)⟩) hx z) hx q⟩
  refine ⟨F, ρ, h, S, R, A1.mo _ _ _ _ _ _ (fun xs h1 z => ?_) (fun _ _ z => z) q⟩
  intro F1 H1 vs e1 S1 rs
  refine ⟨F1, ρ, h1, S1, R.ext e1, A2.mo _ _ _ _ _ _ (fun zs h2 z => ?_) (fun _ _ z => LX.ext e1 z) z⟩
  intro F2 H2 ws e2 S2 rw'
  obtain ⟨x, y, kvs, ks, rfl, rfl, d1, d2, z1, z2⟩ := z
  obtain ⟨vx, rfl, rx⟩ := rs.one
  obtain ⟨vy, rfl, ry⟩ := rw'.one
  obtain ⟨a, us, rfl, hu, rk⟩ := S2.dkOf (rx.ext e2) d1
  exact ⟨a, vy, us, ks, rfl, rfl, hu, by rw [← rk.keys]; exact d2, fun e => (LQ.ext (e1.trans e2) (z1 e)).at S2 ry, fun m h1 h2 => (LQ.ext (e1.trans e2) (z2 m h1 h2)).at S2 (.int m)⟩
end
end DL
namespace DL
open PySem PySem.Spec L2 C8 PyProof.Rows
/-! ### tuple(d.items()) -/
section
variable {prog : Program} {w : World} {A : Around} {E : Value → Shared → Prop} {s : Shared} {K : Type} [DecidableEq K] {knd : KeyKind prog w K} {r d : Addr} {kvs : List (K × Value)} {ep : Nat}
theorem code_tuple_new_view {Q₁ : Value → Shared → Prop} (hh : A.handled = none) (hv : s.heap.IsItemsView r d) (hm : s.heap.DictAt knd d kvs ep) (hn : kvs.length ≤ sizeLine)
    (h : ∀ (h' : Heap) (tk : Nat) (as : List Addr), (∀ b o, s.heap.get? b = some o → h'.get? b = some o) → as.length = kvs.length → PySem.W.KdxG knd kvs s.heap.objs.size h' as →
      Q₁ (.ref h'.objs.size) { s with heap := h'.push { cls := .type "tuple", data := .seq (as.map Value.ref).toArray }, toks := tk }) :
    codeAny (model prog w) A (.call (.builtin "tuple.__new__") ⟨[.type "tuple", .ref r], []⟩) (wants Q₁ E) s := by
  refine codeAny_of_tree ?_
  show wpAny _ A.in1 (do checkBuiltinCall "tuple.__new__" ⟨[.type "tuple", .ref r], []⟩; again (.builtin "tuple.__new__" ⟨[.type "tuple", .ref r], []⟩)) _ _ s
  refine wpAny_bind (wpAny_of_eq (F.newCall_tuple_1 _) (wpAny_pure ⟨plainId_quiet F.plain_tuple_new _, codeAny_builtin F.entry_tuple_new ?_⟩))
  rw [Around.under_plainId F.plain_tuple_new _]
  have hsub := sub_tuple_self
  have hinit := init_tuple_lookup
  have hmh := madeHere_tuple
  have hTI : s.TypeIs (.ref r) "dict_items" := hv.typeIs
  have hh1 : A.in1.handled = none := hh
  wp_walk using wpAny_typeOf hTI, PySem.W.kdx_collect (A := A.in1) hh1 hv hm hn
  intro h' tk as hk hl hG
  show wpAny _ _ (Builtin.Tuple.tupleExact (as.map Value.ref).toArray >>= fun v => ret v) _ _ _
  unfold Builtin.Tuple.tupleExact
  refine wpAny_bind (wpAny_newObj_type ?_ (by show (as.map Value.ref).toArray.size ≤ sizeLine; rw [List.size_toArray, List.length_map, hl]; exact hn))
  refine wpAny_pure ?_
  exact h h' tk as hk hl hG
theorem call_tuple_view {Q : Value → Shared → Prop} (hh : A.handled = none) (hv : s.heap.IsItemsView r d) (hm : s.heap.DictAt knd d kvs ep) (hn : kvs.length ≤ sizeLine)
    (hQ : ∀ (h' : Heap) (tk : Nat) (as : List Addr), (∀ b o, s.heap.get? b = some o → h'.get? b = some o) → as.length = kvs.length → PySem.W.KdxG knd kvs s.heap.objs.size h' as →
      Q (.ref h'.objs.size) { s with heap := h'.push { cls := .type "tuple", data := .seq (as.map Value.ref).toArray }, toks := tk }) :
    wpAny (model prog w) A (call (.type "tuple") [.ref r]) Q E s := by
  refine callType_codes (Q₁ := fun obj s₁ => s₁.TypeIs obj "tuple" ∧ Q obj s₁) F.called_tuple (F.typeCall_tuple_1 _) F.entry_object_init
    (code_tuple_new_view (A := A.in1) hh hv hm hn fun h' tk as hk hl hG => ⟨⟨_, Heap.get?_push_size _ rfl, rfl⟩, hQ h' tk as hk hl hG⟩) fun obj s₁ h₁ => ?_
  exact ⟨h₁.1, F.args_object_init_2 obj _, object_init_meets F.called_tuple.init.lookup F.called_tuple.made (by decide) prog w A.in1 _ s₁ ⟨h₁.1, rfl, h₁.2⟩⟩
end
section
variable {X : Cx}
def rTupView : List V → Hp → VK → Prop := fun vs H Q => ∃ (p a : Addr) (kvs : List (Key × V)), vs = [.ref p] ∧ H p = some (L2.DX.itemsO p a) ∧ H a = some (.dK kvs) ∧
  ∀ (H' : Hp) (q : Addr) (ts : List Addr), (∀ b o, H b = some o → H' b = some o) → H q = none → (∀ t ∈ ts, H t = none ∧ t ≠ q) → H' q = some (.tup (ts.map V.ref)) → Paired (fun (t : Addr) (e : Key × V) => H' t = some (.tup [kV e.1, e.2])) ts kvs → Q (.ref q) H'
theorem paired_mk {α β : Type} {F : α → β → Prop} : ∀ {xs : List α} {ys : List β}, xs.length = ys.length → (∀ (j : Nat) x y, xs[j]? = some x → ys[j]? = some y → F x y) → Paired F xs ys
  | [], [], _, _ => .nil
  | [], _ :: _, h, _ => by cases h
  | _ :: _, [], h, _ => by cases h
  | x :: xs, y :: ys, h, f => .cons (f 0 x y rfl rfl) (paired_mk (Nat.succ.inj h) fun j x y h1 h2 => f (j + 1) x y (by simpa using h1) (by simpa using h2))
theorem cr_tupView (hc : X.calm = true) : CallR X (.type "tuple") rTupView := by
  intro pins s σ H xs us Q I r h
  obtain ⟨p, a, kvs, rfl, hp, ha, q⟩ := h
  obtain rfl := Vals.ref1 r
  have view : s.heap.IsItemsView p a := (show ObjOk X.prog X.w H s.heap p (L2.DX.itemsO p a) from I.hok p _ hp).1
  obtain ⟨z, lo, vs, rel, dd⟩ := (show ObjOk X.prog X.w H s.heap a (.dK kvs) from I.hok a _ ha)
  obtain ⟨ep, hat⟩ := dd.dictAt
  have lk : kvs.length = vs.length := Paired.length rel
  refine call_tuple_view (knd := mixKind X.prog X.w) (kvs := vs) (ep := ep) (I.ok.hd hc) view hat (by rw [← lk]; exact z) fun h' tk as hk hl hG => ?_
  have I1 : Inv X pins σ H { s with heap := h', toks := tk } := I.kept hk
  have nda : as.Nodup := List.Pairwise.imp (fun h => Nat.ne_of_lt h) hG.rise
  have lss : sizeLine = 16777216 := sizeLine_eq
  obtain ⟨H2, I2, sm, tup⟩ := L2.DX.takeT (P := fun b ws => ∃ (j : Nat) (e : Key × V), as[j]? = some b ∧ kvs[j]? = some e ∧ ws = [kV e.1, e.2]) I as H I1 nda fun b hb => by
    obtain ⟨j, hj⟩ := List.mem_iff_getElem?.mp hb
    have hbl : s.heap.objs.size ≤ b := Nat.le_of_lt (hG.above b hb)
    obtain ⟨key, k, x, f1, f2, f3⟩ := hG.pairs j b hj
    obtain ⟨e, he⟩ : ∃ e, kvs[j]? = some e := by
      have : j < kvs.length := by rw [lk]; exact (List.getElem?_eq_some_iff.mp f1).1
      exact ⟨_, List.getElem?_eq_getElem this⟩
    obtain ⟨y, g1, g2, g3⟩ := LiI.paired_get rel he
    rw [f1] at g1
    cases g1
    have rk : RelV (kV e.1) key := by
      rw [g2]
      exact relV_key (show keyIs k key = true from f2)
    exact ⟨hbl, I.hok.fresh hbl, _, ⟨j, e, hj, he, rfl⟩, fun H3 => ⟨by rw [lss]; show 2 ≤ 16777216; omega, _, .cons rk (.cons g3 .nil), ⟨_, f3, rfl, 0, rfl⟩⟩⟩
  have fresh : H2 h'.objs.size = none := I2.hok.fresh (Nat.le_refl _)
  have below : ∀ b ∈ as, b ≠ h'.objs.size := fun b hb e => by
    obtain ⟨_, _, z⟩ := tup b hb
    rw [e, fresh] at z; cases z
  have I3 : Inv X pins σ (upd H2 h'.objs.size (.tup (as.map V.ref))) { s with heap := h'.push { cls := .type "tuple", data := .seq (as.map Value.ref).toArray }, toks := tk } :=
    I2.laid (t' := tk) (fun b o e => Heap.get?_push_of_some _ e) (Nat.le_refl _) (show ObjOk X.prog X.w _ _ _ (.tup (as.map V.ref)) from ⟨by rw [List.length_map, hl, ← lk]; exact z, as.map Value.ref, LiI.vals_refs as, IsTup.new _ _⟩)
  refine ⟨.ref h'.objs.size, _, I3, rfl, q _ _ as (fun b o e => ?_) ?_ (fun t ht => ⟨I.hok.fresh (Nat.le_of_lt (hG.above t ht)), below t ht⟩) upd_same (paired_mk (by rw [hl, lk]) fun j t e h1 h2 => ?_)⟩
  · have := sm b o e
    rw [upd_ne (by rintro rfl; rw [fresh] at this; cases this)]
    exact this
  · cases e : H h'.objs.size with
    | none => rfl
    | some o => rw [sm _ _ e] at fresh; cases fresh
  · have hb := List.mem_of_getElem? h1
    obtain ⟨ws, ⟨j2, e2, g1, g2, rfl⟩, e3⟩ := tup t hb
    have : j2 = j := (List.getElem?_inj (List.getElem?_eq_some_iff.mp g1).1 nda).mp (g1.trans h1.symm)
    subst this
    rw [g2] at h2; cases h2
    rw [upd_ne (below t hb)]
    exact e3
end
/-- a pair of a dict as data -/
def kvD (e : Key × D) : D := .tup [kD e.1, e.2]
def wTupIt (wo : WE) : WE := fun ρ h Q X => wo ρ h (fun x h1 => ∃ kvs, dkOf h1 x = some kvs ∧ Q (.tup (kvs.map kvD)) h1) X
section
variable {X : Cx} {E : XK} {gz : Bool} {k : Nat} {o : Expr} {wo : WE} {apos cpos pos : Pos}
theorem dk_tyV {K : PySem.W.Frag} {H : Hp} {a : Addr} {vs : List (Key × V)} (hu : H a = some (.dK vs)) : tyV K "dict" (.ref a) H := .inr (.inr (.inl ⟨rfl, .inl ⟨_, hu⟩⟩))
theorem ae_tupIt {pn : Pos} (hm : X.mg "tuple" = none) (c : Cg gz X E k) (ho : AE X E o wo) (hg : Gl X "tuple" := by rfl)
    (hbase : attributeBase o "items" X.env (eval o X.env) = eval o X.env := by rfl)
    (hline : (apos.endLine == cpos.line) = true := by rfl)
    (hst : starEach [Expr.Call (.Attribute o "items" apos) [] [] cpos] X.env = (false, eval (.Call (.Attribute o "items" apos) [] [] cpos) X.env) :: starEach [] X.env := by rfl)
    (hpl : (backTo pos (starEach [] X.env)).any (·.1) = false := by rfl) :
    AE X E (.Call (.Name "tuple" pn) [.Call (.Attribute o "items" apos) [] [] cpos] [] pos) (wTupIt wo) := by
  have P1 := pe_bm0 (cpos := cpos) (apos := apos) PySem.F.plainAttrs_dict PySem.F.slot_dict_items PySem.F.type_dict_items (mt_itemsV (X := X)) ho.run hbase hline
  have P2 := pe_callTy (pos := pos) (p := pn) (cr_tupView c.calm) hg hm bb_tuple (pa_cons P1 pa_nil hst) (he := hst) (hpl := hpl)
  refine ⟨PE.imp P2 fun σ H Q ⟨F, ρ, h, S, R, q⟩ => ?_, fun ρ h Q Q' X X' hq hx q => ho.mo _ _ _ _ _ _ (fun x h1 ⟨kvs, e1, z⟩ => ⟨kvs, e1, hq _ _ z⟩) hx q⟩
  refine ⟨F, ρ, h, S, R, ho.mo _ _ _ _ _ _ (fun x h1 z => ?_) (fun _ _ z => z) q⟩
  intro F1 H1 v e1 S1 r
  obtain ⟨kvs, ea, z⟩ := z
  obtain ⟨a, vs, rfl, hu, rs⟩ := S1.dkOf r ea
  refine ⟨dk_tyV hu, a, vs, rfl, rfl, hu, fun p hp => ?_⟩
  have na : a ≠ p := by rintro rfl; rw [hu] at hp; cases hp
  refine ⟨p, a, vs, rfl, upd_same, by rw [upd_ne na]; exact hu, fun H' l ts sm hl nl hL hT => ?_⟩
  have sm1 : ∀ b o, H1 b = some o → H' b = some o := fun b o e => sm b o (by rw [upd_ne (by rintro rfl; rw [hp] at e; cases e)]; exact e)
  have hl1 : H1 l = none := by
    by_cases c : l = p
    · rw [c]; exact hp
    · rw [upd_ne c] at hl; exact hl
  obtain ⟨F2, x2, S2, g2, g3⟩ := S1.grow sm1 (fun b => true)
  have hn : ∀ t ∈ ts, H1 t = none := fun t ht => by
    obtain ⟨n1, n2⟩ := nl t ht
    by_cases c : t = p
    · rw [c]; exact hp
    · rw [upd_ne c] at n1; exact n1
  have rsT : ∀ (ts : List Addr) (kvs : List (Key × D)) (vs : List (Key × V)), (∀ t ∈ ts, H1 t = none) → RepK X.K F1 kvs vs → Paired (fun (t : Addr) (e : Key × V) => H' t = some (.tup [kV e.1, e.2])) ts vs → Reps X.K F2 (kvs.map kvD) (ts.map V.ref) := by
    intro ts
    induction ts with
    | nil => intro kvs vs _ r pr; cases pr; cases r; exact .nil
    | cons t ts ih =>
      intro kvs vs hn r pr
      cases pr with
      | cons p1 p2 =>
        cases r with
        | cons r1 r2 => exact .cons (.tup (.of ((g2 t (hn t (List.mem_cons_self ..)) rfl).trans p1)) (.cons (kD_rep _) (.cons (r1.ext x2) .nil))) (ih _ _ (fun w hw => hn w (List.mem_cons_of_mem _ hw)) r2 p2)
  exact z F2 H' _ (e1.trans x2) S2 (.tup (.of ((g2 l hl1 rfl).trans hL)) (rsT ts kvs vs hn rs hT))
end
end DL
namespace DL
open PySem PySem.Spec L2 C8
/-! ### what a class gives, bundled -/
section
variable (P : Program) (w : World) (K : PySem.W.Frag) (mg : Str → Option Value) (base : Heap)
structure MakC (x : Str) (C : Addr) (k : Nat) (S : FSpec) : Prop where
  ex : ∃ fI, Mk K C fI ∧ FnRD P w K mg base k fI S
  mo : MoF S
  at_ : mg x = some (.ref C)
structure PrpC (C : Addr) (f : Str) (k : Nat) (S : FSpec) : Prop where
  cl : Cls K C
  ex : ∃ pa g fd ps, PropOf K C f pa g ∧ FnG false P w K mg base k g fd ps S ∧ Binds K fd ps []
structure Op2C (C : Addr) (op : Operator) (k : Nat) (S : FSpec) : Prop where
  sf : PySem.W.selfFirst K C = true
  ex : ∃ g, PySem.W.findIn K (.ref C) (PySem.dunder op.info.2) = some (some (.ref g)) ∧ PySem.W.isFn K (.ref g) = true ∧ FnRD P w K mg base k g S
  mo : MoF S
structure IxC (C : Addr) (k : Nat) (S : FSpec) : Prop where
  ex : ∃ g, PySem.W.findIn K (.ref C) "__getitem__" = some (some (.ref g)) ∧ PySem.W.fnIn K g = true ∧ PySem.W.isFn K (.ref g) = true ∧ FnRD P w K mg base k g S
  mo : MoF S
end
section
variable {X : Cx} {E : XK} {gz : Bool} {k j : Nat} {o a b e fe : Expr} {es : List Expr} {wo wa wb we : WE} {wl : WA} {pos apos p sp_ : Pos} {f x m : Str} {C : Addr} {S : FSpec} {op : Operator}
theorem ag_make (c : Cg gz X E k) (M : MakC X.prog X.w X.K X.mg X.base x C j S) (hj : j + 1 ≤ k) (ha : AA X E (e :: es) wl)
    (hg : Gl X x := by rfl) (hdb : (x == ("__debug__" : Str)) = false := by decide) (he : starEach (e :: es) X.env = (false, eval e X.env) :: starEach es X.env := by rfl)
    (hpl : (backTo pos (starEach es X.env)).any (·.1) = false := by rfl) : AE X E (.Call (.Name x p) (e :: es) [] pos) (wMake C S wl) := by
  obtain ⟨fI, h1, h2⟩ := M.ex
  exact ae_make c h1 h2 M.mo hj M.at_ ha hg hdb he hpl
theorem ag_make0 (c : Cg gz X E k) (M : MakC X.prog X.w X.K X.mg X.base x C j S) (hj : j + 1 ≤ k)
    (hg : Gl X x := by rfl) (hdb : (x == ("__debug__" : Str)) = false := by decide) : AE X E (.Call (.Name x p) [] [] pos) (wMake C S wNil) := by
  obtain ⟨fI, h1, h2⟩ := M.ex
  exact ae_make0 c h1 h2 M.mo hj M.at_ hg hdb
theorem ag_makeS (c : Cg gz X E k) (M : MakC X.prog X.w X.K X.mg X.base x C j S) (hj : j + 1 ≤ k) (he : AE X E e we)
    (hg : Gl X x := by rfl) (hdb : (x == ("__debug__" : Str)) = false := by decide) (hst : starEach [.Starred e sp_] X.env = [(true, eval e X.env)] := by rfl) : AE X E (.Call (.Name x p) [.Starred e sp_] [] pos) (wMakeS C S we) := by
  obtain ⟨fI, h1, h2⟩ := M.ex
  exact ae_makeS c h1 h2 M.mo hj M.at_ he hg hdb hst
theorem ag_prop (c : Cg gz X E k) (R : PrpC X.prog X.w X.K X.mg X.base C f j S) (hj : j + 1 ≤ k) (ho : AE X E o wo)
    (hab : attributeBase o f X.env (eval o X.env) = eval o X.env := by rfl) : AE X E (.Attribute o f pos) (wProp C S wo) := by
  obtain ⟨pa, g, fd, ps, h1, h2, h3⟩ := R.ex
  exact ae_prop c R.cl h1 h2 h3 hj ho hab
def wCalO (C : Addr) (S : FSpec) (wo : WE) (wl : WA) : WE := wCallO C S (fun ρ h Q X => wo ρ h (fun y h1 => (∃ fs, insOf h1 y = some (C, fs)) ∧ Q y h1) X) wl
theorem ag_own2 (c : Cg gz X E k) (R : Op2C X.prog X.w X.K X.mg X.base C op j S) (hj : j ≤ k) (ha : AE X E a wa) (hb : AE X E b wb) : AE X E (.BinOp a op b pos) (wOp (dOwn2 C S) wa wb) := by
  obtain ⟨g, h1, h2, h3⟩ := R.ex
  exact ae_own2 c R.sf h1 h2 h3 R.mo hj ha hb
theorem ag_ixOwn (c : Cg gz X E k) (R : IxC X.prog X.w X.K X.mg X.base C j S) (hj : j + 1 ≤ k)
    (ha : AE X E a wa) (hb : AE X E b wb) (hs : ∀ v u, subscripted b true v u = runValue (.builtin "lifetime.subscript" ⟨[v, u], []⟩) := by intro _ _; rfl) : AE X E (.Subscript a b pos) (wOp (dIxOwn C S) wa wb) := by
  obtain ⟨g, h1, h2, h3, h4⟩ := R.ex
  exact ae_ixOwn c h1 h2 h3 h4 R.mo hj ha hb hs
end
/-! ### how the readings unfold -/
section
variable {ρ : EnvD} {h : AH} {Q : KD} {X : KX} {D0 : EndsD} {a b wo wv : WE} {wl wk : WA} {C : Addr} {S : FSpec} {f m : Str} {fs : List (Str × D)} {x y : D} {mm : Bool}
theorem u_prop : wProp C S wo ρ h Q X = wo ρ h (fun x h1 => isI C x h1 ∧ S [x] h1 Q (fun _ _ => False)) X := rfl
theorem u_fld : wFld C f wo ρ h Q X = wo ρ h (fun x h1 => ∃ fs d, insOf h1 x = some (C, fs) ∧ fs.lookup f = some d ∧ Q d h1) X := rfl
theorem u_setF : wSetF C f wo wv D0 ρ h = wv ρ h (fun z h1 => wo ρ h1 (fun x h2 => ∃ a fs, x = .ref a ∧ h2 a = some (.ins C fs) ∧ fs.length < 1000 ∧ D0.nx ρ (up h2 a (.ins C (putFD f z fs)))) D0.ex) D0.ex := rfl
theorem u_make : wMake C S wl ρ h Q X = wl ρ h (fun ds h1 => ∀ a, h1 a = none → S (.ref a :: ds) (up h1 a (.ins C [])) (fun v h2 => v = .non ∧ ∃ fs, h2 a = some (.ins C fs) ∧ Q (.ob C fs) (rm h2 a)) X) X := rfl
theorem u_makeS : wMakeS C S wo ρ h Q X = wo ρ h (fun y h1 => ∃ ds, seqOf h1 y = some ds ∧ ∀ a, h1 a = none → S (.ref a :: ds) (up h1 a (.ins C [])) (fun v h2 => v = .non ∧ ∃ fs, h2 a = some (.ins C fs) ∧ Q (.ob C fs) (rm h2 a)) X) X := rfl
theorem u_met : wMet C m S wo wl ρ h Q X = wo ρ h (fun x h1 => ∃ fs, insOf h1 x = some (C, fs) ∧ fs.lookup m = none ∧ wl ρ h1 (fun ds h2 => S (x :: ds) h2 Q X) X) X := rfl
theorem u_calO : wCalO C S wo wl ρ h Q X = wo ρ h (fun y h1 => (∃ fs, insOf h1 y = some (C, fs)) ∧ wl ρ h1 (fun ds h2 => (∃ fs, insOf h2 y = some (C, fs)) ∧ S (y :: ds) h2 Q X) X) X := rfl
theorem u_own2 : dOwn2 C S x y h Q = (isI C x h ∧ isI C y h ∧ S [x, y] h Q (fun _ _ => False)) := rfl
theorem u_orT : wOrT a b ρ h Q X = a ρ h (fun x h1 => ∃ k, truD h1 x = some k ∧ if k = true then Q x h1 else b ρ h1 Q X) X := rfl
theorem u_tupIt : wTupIt wo ρ h Q X = wo ρ h (fun x h1 => ∃ kvs, dkOf h1 x = some kvs ∧ Q (.tup (kvs.map kvD)) h1) X := rfl
theorem u_dnew : wDnew ρ h Q X = ∀ p, h p = none → Q (.ref p) (up h p (.dK [])) := rfl
theorem u_dput {wi : WE} : wDput wo wi wv D0 ρ h = wv ρ h (fun z h1 => wo ρ h1 (fun x h2 => wi ρ h2 (fun y h3 => ∃ a kvs k, x = .ref a ∧ h3 a = some (.dK kvs) ∧ keyD y = some k ∧ kvs.length < sizeLine ∧ D0.nx ρ (up h3 a (.dK (putD kvs k z)))) D0.ex) D0.ex) D0.ex := rfl
theorem u_get2 {wi wx : WE} : wGet2 wo wi wx ρ h Q X = wo ρ h (fun x h1 => (dkOf h1 x).isSome = true ∧ wi ρ h1 (fun y h2 => wx ρ h2 (fun z h3 => ∃ kvs k, dkOf h3 x = some kvs ∧ keyD y = some k ∧ Q ((valD kvs k).getD z) h3) X) X) X := rfl
theorem u_dget {wi : WE} : wDGet wo wi ρ h Q X = wo ρ h (fun x h1 => wi ρ h1 (fun y h2 => ∃ kvs k d, dkOf h2 x = some kvs ∧ keyD y = some k ∧ valD kvs k = some d ∧ Q d h2) X) X := rfl
theorem u_dc {m : Bool} {wi : WI} {g : WG} {tt : WT} {tk tv : WE} {vs : List Nat} : wDc m wi g tt tk tv vs ρ h Q X = wi ρ h (fun xs st h1 => ∀ p, h1 p = none → dcD st g tt tk tv vs ρ p xs (up h1 p (.dK [])) (endK m p Q)) X := rfl
theorem u_maxDd : wMaxDd wl wk ρ h Q X = wl ρ h (fun xs h1 => wk ρ h1 (fun zs h2 => ∃ (x z : D) (kvs : List (Key × D)) (ks : List Int), xs = [x] ∧ zs = [z] ∧ dkOf h2 x = some kvs ∧ kvs.map (·.1) = ks.map Sum.inl ∧ (ks = [] → Q z h2) ∧ ∀ m, m ∈ ks → (∀ y ∈ ks, y ≤ m) → Q (.int m) h2) X) X := rfl
end
end DL
namespace DL
open PySem PySem.Spec L2 C8
/-! ### lists of pairs of ints as dicts and ledgers: plain theory -/
abbrev Prs := List (Int × Int)
def getI (es : Prs) (k : Int) : Int := ((es.find? fun e => decide (e.1 = k)).map (·.2)).getD 0
def hasI (es : Prs) (k : Int) : Bool := es.any fun e => decide (e.1 = k)
def putI (es : Prs) (k v : Int) : Prs := if hasI es k then es.map (fun e => if e.1 = k then (e.1, v) else e) else es ++ [(k, v)]
def amt (es : Prs) (k : Int) : Int := (es.map fun e => if e.1 = k then e.2 else 0).sum
theorem hasI_iff {es : Prs} {k : Int} : hasI es k = true ↔ ∃ v, (k, v) ∈ es := by
  unfold hasI
  rw [List.any_eq_true]
  constructor
  · rintro ⟨e, h, c⟩
    have : e.1 = k := by simpa using c
    exact ⟨e.2, by rw [← this]; exact h⟩
  · rintro ⟨v, h⟩
    exact ⟨_, h, by simp⟩
theorem hasI_keys {es : Prs} {k : Int} : hasI es k = true ↔ k ∈ es.map (·.1) := by
  rw [hasI_iff, List.mem_map]
  exact ⟨fun ⟨v, h⟩ => ⟨_, h, rfl⟩, fun ⟨e, h, c⟩ => ⟨e.2, by rw [← c]; exact h⟩⟩
theorem keys_put {es : Prs} {k v : Int} : (putI es k v).map (·.1) = if hasI es k then es.map (·.1) else es.map (·.1) ++ [k] := by
  unfold putI
  split
  · rw [List.map_map]
    apply List.map_congr_left
    intro e _
    show (if e.1 = k then (e.1, v) else e).1 = e.1
    split <;> rfl
  · simp
theorem nodup_put {es : Prs} {k v : Int} (h : (es.map (·.1)).Nodup) : ((putI es k v).map (·.1)).Nodup := by
  rw [keys_put]
  split
  · exact h
  · rename_i c
    rw [List.nodup_append]
    refine ⟨h, by simp, fun a ha b hb e => ?_⟩
    have : b = k := by simpa using hb
    subst this
    subst e
    exact c (hasI_keys.mpr ha)
theorem len_put {es : Prs} {k v : Int} : (putI es k v).length ≤ es.length + 1 := by
  unfold putI; split <;> simp
theorem getI_cons {e : Int × Int} {es : Prs} {k : Int} : getI (e :: es) k = if e.1 = k then e.2 else getI es k := by
  unfold getI
  rw [List.find?_cons]
  by_cases c : e.1 = k <;> simp [c]
theorem getI_no {es : Prs} {k : Int} (h : hasI es k = false) : getI es k = 0 := by
  induction es with
  | nil => rfl
  | cons e es ih =>
    have h : (decide (e.1 = k) || hasI es k) = false := h
    rw [Bool.or_eq_false_iff] at h
    rw [getI_cons, if_neg (by simpa using h.1), ih h.2]
theorem getI_mem {es : Prs} (nd : (es.map (·.1)).Nodup) {k v : Int} (h : (k, v) ∈ es) : getI es k = v := by
  induction es with
  | nil => cases h
  | cons e es ih =>
    rw [getI_cons]
    rw [List.map_cons, List.nodup_cons] at nd
    rcases List.mem_cons.mp h with rfl | h
    · simp
    · have : e.1 ≠ k := fun c => nd.1 (by rw [c]; exact List.mem_map.mpr ⟨_, h, rfl⟩)
      rw [if_neg this]; exact ih nd.2 h
theorem getI_append {es fs : Prs} {k : Int} : getI (es ++ fs) k = if hasI es k then getI es k else getI fs k := by
  induction es with
  | nil => simp [hasI]
  | cons e es ih =>
    rw [List.cons_append, getI_cons, getI_cons, ih]
    have : hasI (e :: es) k = (decide (e.1 = k) || hasI es k) := rfl
    rw [this]
    by_cases c : e.1 = k <;> simp [c]
theorem getI_put {es : Prs} {k v j : Int} : getI (putI es k v) j = if j = k then v else getI es j := by
  unfold putI
  split
  · rename_i c
    by_cases e : j = k
    · subst e
      rw [if_pos rfl]
      induction es with
      | nil => cases c
      | cons e es ih =>
        rw [List.map_cons, getI_cons]
        by_cases d : e.1 = j
        · simp [d]
        · have c : (decide (e.1 = j) || hasI es j) = true := c
          rw [if_neg d, if_neg d]
          exact ih (by simpa [d] using c)
    · rw [if_neg e]
      clear c
      induction es with
      | nil => rfl
      | cons x es ih =>
        rw [List.map_cons, getI_cons, getI_cons, ih]
        by_cases d : x.1 = k
        · rw [if_pos d]
          show (if x.1 = j then v else getI es j) = _
          rw [if_neg (fun z => e (z.symm.trans d)), if_neg (fun z => e (z.symm.trans d))]
        · rw [if_neg d]
  · rename_i c
    rw [getI_append, getI_cons]
    by_cases e : j = k
    · subst e; rw [if_pos rfl, if_neg c, if_pos rfl]
    · rw [if_neg e, if_neg (show ¬ (k, v).1 = j from fun z => e z.symm)]
      by_cases d : hasI es j = true
      · rw [if_pos d]
      · rw [if_neg d]
        exact (getI_no (es := es) (by simpa using d)).symm
theorem amt_cons {e : Int × Int} {es : Prs} {k : Int} : amt (e :: es) k = (if e.1 = k then e.2 else 0) + amt es k := by
  unfold amt; rw [List.map_cons, List.sum_cons]
theorem amt_append {es fs : Prs} {k : Int} : amt (es ++ fs) k = amt es k + amt fs k := by
  unfold amt; rw [List.map_append, List.sum_append]
theorem amt_nil {k : Int} : amt [] k = 0 := rfl
theorem amt_get {es : Prs} (nd : (es.map (·.1)).Nodup) {k : Int} : amt es k = getI es k := by
  induction es with
  | nil => rfl
  | cons e es ih =>
    rw [List.map_cons, List.nodup_cons] at nd
    rw [amt_cons, getI_cons, ih nd.2]
    split
    · rename_i c
      rw [getI_no, Int.add_zero]
      cases h : hasI es k with
      | false => rfl
      | true => exact absurd (hasI_keys.mp h) (by rw [← c]; exact nd.1)
    · exact Int.zero_add _
/-- es is the ledger of the amounts A -/
structure Led (es : Prs) (A : Int → Int) : Prop where
  pw : es.Pairwise (fun a b => a.1 < b.1)
  mem : ∀ k v, (k, v) ∈ es ↔ (v = A k ∧ v ≠ 0)
theorem pw_nodup {es : Prs} (h : es.Pairwise (fun a b => a.1 < b.1)) : (es.map (·.1)).Nodup := by
  rw [List.nodup_iff_pairwise_ne, List.pairwise_map]
  exact h.imp fun h => by omega
theorem pw_ext : ∀ {es fs : Prs}, es.Pairwise (fun a b => a.1 < b.1) → fs.Pairwise (fun a b => a.1 < b.1) → (∀ e, e ∈ es ↔ e ∈ fs) → es = fs
  | [], [], _, _, _ => rfl
  | [], f :: fs, _, _, h => absurd ((h f).mpr (List.mem_cons_self ..)) (by simp)
  | e :: es, [], _, _, h => absurd ((h e).mp (List.mem_cons_self ..)) (by simp)
  | e :: es, f :: fs, h1, h2, h => by
    rw [List.pairwise_cons] at h1 h2
    have ef : e = f := by
      rcases List.mem_cons.mp ((h e).mp (List.mem_cons_self ..)) with z | z
      · exact z
      · rcases List.mem_cons.mp ((h f).mpr (List.mem_cons_self ..)) with y | y
        · exact y.symm
        · have a1 := h2.1 e z
          have a2 := h1.1 f y
          omega
    subst ef
    rw [pw_ext h1.2 h2.2 fun x => ?_]
    have hx := h x
    rw [List.mem_cons, List.mem_cons] at hx
    constructor
    · intro m
      rcases hx.mp (.inr m) with rfl | z
      · exact absurd (h1.1 _ m) (by omega)
      · exact z
    · intro m
      rcases hx.mpr (.inr m) with rfl | z
      · exact absurd (h2.1 _ m) (by omega)
      · exact z
theorem Led.unique {es fs : Prs} {A : Int → Int} (h1 : Led es A) (h2 : Led fs A) : es = fs :=
  pw_ext h1.pw h2.pw fun ⟨k, v⟩ => by rw [h1.mem, h2.mem]
/-- a list that stands as a ledger does -/
def Std (es : Prs) : Prop := es.Pairwise (fun a b => a.1 < b.1) ∧ ∀ e ∈ es, e.2 ≠ 0
theorem Led.std {es : Prs} {A : Int → Int} (h : Led es A) : Std es := ⟨h.pw, fun e he => ((h.mem e.1 e.2).mp he).2⟩
theorem Std.led {es : Prs} (h : Std es) : Led es (amt es) := by
  have nd := pw_nodup h.1
  refine ⟨h.1, fun k v => ?_⟩
  rw [amt_get nd]
  constructor
  · intro m; exact ⟨(getI_mem nd m).symm, h.2 _ m⟩
  · rintro ⟨rfl, n⟩
    cases c : hasI es k with
    | false => exact absurd (getI_no c) n
    | true =>
      obtain ⟨v, m⟩ := hasI_iff.mp c
      rw [getI_mem nd m]; exact m
theorem Led.eqA {es : Prs} {A : Int → Int} (h : Led es A) : amt es = A := by
  funext k
  have nd := pw_nodup h.pw
  rw [amt_get nd]
  by_cases z : A k = 0
  · rw [z]
    refine getI_no ?_
    cases c : hasI es k with
    | false => rfl
    | true =>
      obtain ⟨v, m⟩ := hasI_iff.mp c
      obtain ⟨e1, e2⟩ := (h.mem _ _).mp m
      exact absurd (e1.trans z) e2
  · exact getI_mem nd ((h.mem _ _).mpr ⟨rfl, z⟩)
theorem Led.of_amt {es : Prs} {A B : Int → Int} (h : Led es A) (e : ∀ k, A k = B k) : Led es B := by
  have : A = B := funext e
  subst this; exact h
/-- the keys in order, those that count -/
def keyed (A : Int → Int) (ys : List Int) : Prs := ys.filterMap fun k => if A k ≠ 0 then some (k, A k) else none
theorem keyed_led {A : Int → Int} {ys : List Int} (pw : ys.Pairwise (· ≤ ·)) (nd : ys.Nodup) (all : ∀ k, A k ≠ 0 → k ∈ ys) : Led (keyed A ys) A := by
  have lt : ys.Pairwise (· < ·) := by
    have := List.Pairwise.and pw (List.nodup_iff_pairwise_ne.mp nd)
    exact this.imp fun ⟨a, b⟩ => by omega
  refine ⟨?_, fun k v => ?_⟩
  · unfold keyed
    rw [List.pairwise_filterMap]
    refine lt.imp ?_
    intro a b h x hx y hy
    have hx : (if A a ≠ 0 then some (a, A a) else none) = some x := hx
    have hy : (if A b ≠ 0 then some (b, A b) else none) = some y := hy
    split at hx
    · split at hy
      · cases hx; cases hy; exact h
      · cases hy
    · cases hx
  · unfold keyed
    rw [List.mem_filterMap]
    constructor
    · rintro ⟨a, m, e⟩
      split at e
      · cases e; rename_i c; exact ⟨rfl, c⟩
      · cases e
    · rintro ⟨rfl, n⟩
      exact ⟨k, all k n, by rw [if_pos n]⟩
theorem keyed_len {A : Int → Int} {ys : List Int} : (keyed A ys).length ≤ ys.length := List.length_filterMap_le ..
/-! ### the same as data -/
theorem valD_toK (es : Prs) (k : Int) : valD (toK es) (Sum.inl k) = (es.find? fun e => decide (e.1 = k)).map fun e => D.int e.2 := by
  unfold valD toK
  rw [List.find?_map]
  have : ((fun kv : Key × D => decide (kv.1 = Sum.inl k)) ∘ fun e : Int × Int => ((Sum.inl e.1 : Key), D.int e.2)) = fun e => decide (e.1 = k) := by
    funext e
    show decide ((Sum.inl e.1 : Key) = Sum.inl k) = decide (e.1 = k)
    simp
  rw [this, Option.map_map]
  rfl
theorem val_getD (es : Prs) (k : Int) : (valD (toK es) (Sum.inl k)).getD (.int 0) = .int (getI es k) := by
  rw [valD_toK]
  unfold getI
  cases es.find? fun e => decide (e.1 = k) <;> rfl
theorem val_some {es : Prs} {k : Int} (h : k ∈ es.map (·.1)) : valD (toK es) (Sum.inl k) = some (.int (getI es k)) := by
  rw [valD_toK]
  unfold getI
  cases e : es.find? fun e => decide (e.1 = k) with
  | some x => rfl
  | none =>
    obtain ⟨x, hx, rfl⟩ := List.mem_map.mp h
    have := List.find?_eq_none.mp e x hx
    simp at this
theorem putD_toK (es : Prs) (k v : Int) : putD (toK es) (Sum.inl k) (.int v) = toK (putI es k v) := by
  unfold putD putI
  have c : ((toK es).any fun kv => decide (kv.1 = (Sum.inl k : Key))) = hasI es k := by
    unfold toK hasI
    rw [List.any_map]
    congr 1
    funext e
    show decide ((Sum.inl e.1 : Key) = Sum.inl k) = decide (e.1 = k)
    simp
  rw [c]
  split
  · unfold toK
    rw [List.map_map, List.map_map]
    apply List.map_congr_left
    intro e _
    show (if (Sum.inl e.1 : Key) = Sum.inl k then ((Sum.inl e.1 : Key), D.int v) else (Sum.inl e.1, D.int e.2)) = ((Sum.inl (if e.1 = k then (e.1, v) else e).1 : Key), D.int (if e.1 = k then (e.1, v) else e).2)
    by_cases z : e.1 = k
    · rw [if_pos (by rw [z]), if_pos z]
    · rw [if_neg (by intro y; exact z (Sum.inl.inj y)), if_neg z]
  · simp [toK]
theorem toK_keys (es : Prs) : (toK es).map (·.1) = (es.map (·.1)).map Sum.inl := by
  unfold toK; rw [List.map_map, List.map_map]; rfl
theorem toK_kv (es : Prs) : (toK es).map kvD = es.map pairD := by
  unfold toK; rw [List.map_map]; rfl
theorem toK_len (es : Prs) : (toK es).length = es.length := by simp [toK]
/-- a ledger as data -/
def ledD (C : Addr) (es : Prs) : D := .ob C [("amounts", .dK (toK es))]
theorem ledD_isI {C : Addr} {es : Prs} {h : AH} : isI C (ledD C es) h := ⟨_, rfl⟩
/-- the sum over a ledger at a capacity -/
def lenAt (es : Prs) (c : Int) : Int := (es.map fun e => e.2 * (e.1 % c)).sum
end DL
namespace DL
open PySem PySem.Spec L2 C8
/-! ### dict comprehensions over what does not change -/
def dstep (f : D → Option (Key × D)) (acc : List (Key × D)) (x : D) : List (Key × D) := match f x with
  | some e => putD acc e.1 e.2
  | none => acc
theorem dstep_len {f : D → Option (Key × D)} {acc : List (Key × D)} {x : D} : (dstep f acc x).length ≤ acc.length + 1 := by
  unfold dstep
  split
  · unfold putD; split <;> simp
  · omega
theorem dc_pure {st : AH → Prop} {g : WG} {tt : WT} {tk tv : WE} {vs : List Nat} {ρ : EnvD} {p : Addr} {xs : List D} {h : AH} {Q : AH → Prop} (f : D → Option (Key × D)) (hst : ∀ acc, st (up h p (.dK acc))) (hl : xs.length ≤ sizeLine)
    (hs : ∀ x acc (K : AH → Prop), x ∈ xs → acc.length < sizeLine → K (up h p (.dK (dstep f acc x))) → g x (wipeD ρ vs) (up h p (.dK acc)) (fun ρ2 h2 => tt ρ2 h2 (fun b h3 => if b = true then tk ρ2 h3 (fun y h4 => tv ρ2 h4 (fun z h5 => ∃ kvs k, keyD y = some k ∧ h5 p = some (.dK kvs) ∧ kvs.length < sizeLine ∧ K (up h5 p (.dK (putD kvs k z)))) (fun _ _ => False)) (fun _ _ => False) else K h3) (fun _ _ => False)) (fun _ _ => False))
    (hd : Q (up h p (.dK (xs.foldl (dstep f) [])))) : dcD st g tt tk tv vs ρ p xs (up h p (.dK [])) Q := by
  suffices H : ∀ (ys : List D) (acc : List (Key × D)), (∀ y ∈ ys, y ∈ xs) → acc.length + ys.length ≤ sizeLine → Q (up h p (.dK (ys.foldl (dstep f) acc))) → dcD st g tt tk tv vs ρ p ys (up h p (.dK acc)) Q from H xs [] (fun _ z => z) (by simpa using hl) hd
  intro ys
  induction ys with
  | nil => intro acc _ _ q; exact ⟨hst _, q⟩
  | cons y ys ih =>
    intro acc hm hl2 q
    rw [List.length_cons] at hl2
    refine ⟨hst _, hs y acc (fun h => dcD st g tt tk tv vs ρ p ys h Q) (hm y (List.mem_cons_self ..)) (by omega) (ih _ (fun z hz => hm z (List.mem_cons_of_mem _ hz)) ?_ q)⟩
    have := dstep_len (f := f) (acc := acc) (x := y)
    omega
/-- the dict of the keys that count -/
def pick0 (A : Int → Int) (x : D) : Option (Key × D) := match x with
  | .int k => if A k ≠ 0 then some (Sum.inl k, .int (A k)) else none
  | _ => none
theorem put_new {es : Prs} {k v : Int} (h : hasI es k = false) : putI es k v = es ++ [(k, v)] := by
  unfold putI; rw [h]; rfl
theorem fold_keyed (A : Int → Int) : ∀ (ys : List Int) (es : Prs), ys.Nodup → (∀ y ∈ ys, hasI es y = false) → (ys.map D.int).foldl (dstep (pick0 A)) (toK es) = toK (es ++ keyed A ys)
  | [], es, _, _ => by simp [keyed]
  | y :: ys, es, nd, hn => by
    rw [List.nodup_cons] at nd
    rw [List.map_cons, List.foldl_cons]
    by_cases c : A y ≠ 0
    · have e1 : dstep (pick0 A) (toK es) (.int y) = toK (es ++ [(y, A y)]) := by
        unfold dstep pick0
        simp only [if_pos c]
        rw [putD_toK, put_new (hn y (List.mem_cons_self ..))]
      have e2 : keyed A (y :: ys) = (y, A y) :: keyed A ys := by
        unfold keyed; rw [List.filterMap_cons, if_pos c]
      rw [e1, fold_keyed A ys _ nd.2 (fun z hz => ?_), e2]
      · simp
      · have h1 := hn z (List.mem_cons_of_mem _ hz)
        have h2 : y ≠ z := fun e => nd.1 (by rw [e]; exact hz)
        show (es ++ [(y, A y)]).any _ = false
        rw [List.any_append]
        have h1 : es.any (fun e => decide (e.1 = z)) = false := h1
        rw [h1]
        simp [h2]
    · have e1 : dstep (pick0 A) (toK es) (.int y) = toK es := by
        unfold dstep pick0
        simp only [if_neg c]
      have e2 : keyed A (y :: ys) = keyed A ys := by
        unfold keyed; rw [List.filterMap_cons, if_neg c]
      rw [e1, fold_keyed A ys _ nd.2 (fun z hz => hn z (List.mem_cons_of_mem _ hz)), e2]
theorem endKF {p : Addr} {h : AH} {kvs : List (Key × D)} {Q : KD} (hp : h p = none) (q : Q (.dK kvs) h) : endK false p Q (up h p (.dK kvs)) := ⟨kvs, up_same, by rw [if_neg (by decide), rm_up, rm_none hp]; exact q⟩
theorem ix_p0 {r : Int × Int} {h : AH} {Q : KD} : dIx (pairD r) (.int 0) h Q = Q (.int r.1) h := u_ixTd at0
theorem ix_p1 {r : Int × Int} {h : AH} {Q : KD} : dIx (pairD r) (.int 1) h Q = Q (.int r.2) h := u_ixTd at1
/-! ### the small defs -/
section
variable {ρ : EnvD} {h : AH} {Q : KD} {X : KX} {D0 : EndsD} {x : D} {t : String}
theorem tyD_in (e : tyD h x = some t) : t = "NoneType" ∨ t = "bool" ∨ t = "int" ∨ t = "str" ∨ t = "tuple" ∨ t = "list" ∨ t = "dict" := by
  unfold tyD at e
  split at e <;> first | (cases e; simp) | cases e
end
def S_isInt : FSpec := fun ds h Q _ => ∃ x t, ds = [x] ∧ tyD h x = some t ∧ Q (.bl (decide (t = "int"))) h
def wr_isInt : WS := (wRet (wAndV (wB dIsi (wCons (wVar 0) (wCons (wC (.ty "int")) wNil))) (wNotV (wB dIsi (wCons (wVar 0) (wCons (wC (.ty "bool")) wNil))))))
theorem pr_isInt : ∀ ds h Q X, S_isInt ds h Q X → wr_isInt (endsD Q X) (startD 1 ds) h := by
  rintro ds h Q X ⟨x, t, rfl, e, q⟩
  show wr_isInt (endsD Q X) [some x] h
  simp only [wr_isInt, u_asg, u_gN, u_ret, u_retN, u_skip, u_expr, u_ifs, u_c, u_op, u_neg, u_test, u_and, u_or, u_not, u_if, u_nil, u_cons, u_tup, u_lst, u_callP, u_call, u_b, u_chain, u_andV, u_addI, u_subI, u_mulI, u_divI, u_modI, u_powI, u_cmpI, u_eqI, u_eqS, u_eqB, u_abs, u_intI, u_intB, u_newT, u_newF, u_isN, u_notN, wVar, List.set_cons_zero, List.set_cons_succ, List.getElem?_cons_zero, List.getElem?_cons_succ, List.length_cons, List.length_nil, u_lc, u_for, u_r1, u_r2, u_r3, u_num, u_notV, u_yes, u_w0, u_w1]
  rcases tyD_in e with rfl | rfl | rfl | rfl | rfl | rfl | rfl
  · exact ⟨x, _, "int", false, rfl, e, rfl, fin_of q⟩
  · exact ⟨x, _, "int", true, rfl, e, rfl, x, _, "bool", true, rfl, e, rfl, fin_of q⟩
  · exact ⟨x, _, "int", true, rfl, e, rfl, x, _, "bool", false, rfl, e, rfl, fin_of q⟩
  · exact ⟨x, _, "int", false, rfl, e, rfl, fin_of q⟩
  · exact ⟨x, _, "int", false, rfl, e, rfl, fin_of q⟩
  · exact ⟨x, _, "int", false, rfl, e, rfl, fin_of q⟩
  · exact ⟨x, _, "int", false, rfl, e, rfl, fin_of q⟩
theorem len_isInt : ∀ ds h Q X, S_isInt ds h Q X → ds.length = 1 := fun _ _ _ _ ⟨_, _, e, _⟩ => by rw [e]; rfl
theorem mo_isInt : MoF S_isInt := fun _ _ _ _ _ _ hq _ ⟨a, b, e, o, q⟩ => ⟨a, b, e, o, hq _ _ q⟩
theorem ty_int {i : Int} {h : AH} : tyD h (.int i) = some "int" := rfl
def btw (x : D) (lo hi : Int) : Bool := match x with
  | .int i => decide (lo ≤ i) && decide (i ≤ hi)
  | _ => false
def S_isBtw : FSpec := fun ds h Q _ => ∃ x t lo hi, ds = [x, .int lo, .int hi] ∧ tyD h x = some t ∧ Q (.bl (btw x lo hi)) h
def wr_isBtw : WS := (wRet (wAndV (wCallP S_isInt 1 (fun ds _ => ds) (wCons (wVar 0) wNil)) (wChain (dCmpI fun i j => decide (i ≤ j)) (dCmpI fun i j => decide (i ≤ j)) (wVar 1) (wVar 0) (wVar 2))))
theorem ty_isint {h : AH} {x : D} (e : tyD h x = some "int") : ∃ i, x = .int i := by
  cases x with
  | int i => exact ⟨i, rfl⟩
  | ref a =>
    cases ea : h a with
    | none => simp [tyD, cur, ea] at e
    | some o => cases o <;> simp [tyD, cur, ea] at e
  | _ => simp [tyD, cur] at e
theorem ty_noint {h : AH} {x : D} {t : String} (e : tyD h x = some t) (n : t ≠ "int") {lo hi : Int} : btw x lo hi = false := by
  cases x with
  | int i => exact absurd (Option.some.inj e).symm n
  | _ => rfl
theorem pr_isBtw : ∀ ds h Q X, S_isBtw ds h Q X → wr_isBtw (endsD Q X) (startD 3 ds) h := by
  rintro ds h Q X ⟨x, t, lo, hi, rfl, e, q⟩
  show wr_isBtw (endsD Q X) [some x, some (.int lo), some (.int hi)] h
  simp only [wr_isBtw, u_asg, u_gN, u_ret, u_retN, u_skip, u_expr, u_ifs, u_c, u_op, u_neg, u_test, u_and, u_or, u_not, u_if, u_nil, u_cons, u_tup, u_lst, u_callP, u_call, u_b, u_chain, u_andV, u_addI, u_subI, u_mulI, u_divI, u_modI, u_powI, u_cmpI, u_eqI, u_eqS, u_eqB, u_abs, u_intI, u_intB, u_newT, u_newF, u_isN, u_notN, wVar, List.set_cons_zero, List.set_cons_succ, List.getElem?_cons_zero, List.getElem?_cons_succ, List.length_cons, List.length_nil, u_lc, u_for, u_r1, u_r2, u_r3, u_num, u_notV, u_yes, u_w0, u_w1]
  refine ⟨trivial, x, t, rfl, e, ?_⟩
  by_cases c : t = "int"
  · subst c
    obtain ⟨i, rfl⟩ := ty_isint e
    have q : Q (.bl (decide (lo ≤ i) && decide (i ≤ hi))) h := q
    simp only [decide_true, if_true, u_cmpI]
    by_cases d : lo ≤ i
    · rw [decide_eq_true d] at q ⊢
      exact fin_of q
    · rw [decide_eq_false d] at q ⊢
      exact fin_of q
  · rw [ty_noint e c] at q
    simp only [decide_eq_false c]
    exact fin_of q
theorem len_isBtw : ∀ ds h Q X, S_isBtw ds h Q X → ds.length = 3 := fun _ _ _ _ ⟨_, _, _, _, e, _⟩ => by rw [e]; rfl
theorem mo_isBtw : MoF S_isBtw := fun _ _ _ _ _ _ hq _ ⟨a, b, c, d, e, o, q⟩ => ⟨a, b, c, d, e, o, hq _ _ q⟩
def S_isRow : FSpec := fun ds h Q _ => ∃ r : Int × Int, ds = [pairD r] ∧ Q (.bl (decide (0 ≤ r.1) && decide (r.1 ≤ 1000000))) h
def wr_isRow : WS := (wSeq (wIfS (wOr (wNot (wTest (wB dIsi (wCons (wVar 0) (wCons (wC (.ty "tuple")) wNil))))) (wTest (wOp (dEq fun b => !b) (wB dLen (wCons (wVar 0) wNil)) (wC (.int 2))))) (wRet (wC (.bl false))) wSkip)
  (wRet (wAndV (wCallP S_isBtw 3 (fun ds _ => ds) (wCons (wOp dIx (wVar 0) (wC (.int 0))) (wCons (wC (.int 0)) (wCons (wC (.int 1000000)) wNil)))) (wCallP S_isInt 1 (fun ds _ => ds) (wCons (wOp dIx (wVar 0) (wC (.int 1))) wNil)))))
theorem pr_isRow : ∀ ds h Q X, S_isRow ds h Q X → wr_isRow (endsD Q X) (startD 1 ds) h := by
  rintro ds h Q X ⟨r, rfl, q⟩
  show wr_isRow (endsD Q X) [some (pairD r)] h
  unfold wr_isRow
  rw [u_seq]
  simp only [u_asg, u_gN, u_ret, u_retN, u_skip, u_expr, u_ifs, u_c, u_op, u_neg, u_test, u_and, u_or, u_not, u_if, u_nil, u_cons, u_tup, u_lst, u_callP, u_call, u_b, u_chain, u_andV, u_addI, u_subI, u_mulI, u_divI, u_modI, u_powI, u_cmpI, u_eqI, u_eqS, u_eqB, u_abs, u_intI, u_intB, u_newT, u_newF, u_isN, u_notN, wVar, List.set_cons_zero, List.set_cons_succ, List.getElem?_cons_zero, List.getElem?_cons_succ, List.length_cons, List.length_nil, u_lc, u_for, u_r1, u_r2, u_r3, u_num, u_notV, u_yes, u_w0, u_w1]
  refine ⟨_, _, "tuple", _, rfl, rfl, rfl, ?_⟩
  refine ⟨2, rfl, ?_⟩
  simp only [u_asg, u_gN, u_ret, u_retN, u_skip, u_expr, u_ifs, u_c, u_op, u_neg, u_test, u_and, u_or, u_not, u_if, u_nil, u_cons, u_tup, u_lst, u_callP, u_call, u_b, u_chain, u_andV, u_addI, u_subI, u_mulI, u_divI, u_modI, u_powI, u_cmpI, u_eqI, u_eqS, u_eqB, u_abs, u_intI, u_intB, u_newT, u_newF, u_isN, u_notN, wVar, List.set_cons_zero, List.set_cons_succ, List.getElem?_cons_zero, List.getElem?_cons_succ, List.length_cons, List.length_nil, u_lc, u_for, u_r1, u_r2, u_r3, u_num, u_notV, u_yes, u_w0, u_w1, ix_p0, ix_p1]
  refine ⟨trivial, _, _, _, _, rfl, ty_int, ?_⟩
  show (if (btw (.int r.1) 0 1000000) = true then _ else _)
  have e : btw (.int r.1) 0 1000000 = (decide (0 ≤ r.1) && decide (r.1 ≤ 1000000)) := rfl
  rw [e]
  by_cases c : (decide (0 ≤ r.1) && decide (r.1 ≤ 1000000)) = true
  · rw [if_pos c]
    rw [c] at q
    exact ⟨trivial, _, _, rfl, ty_int, fin_of q⟩
  · rw [if_neg c]
    rw [eq_false_of_ne_true c] at q
    exact fin_of q
theorem len_isRow : ∀ ds h Q X, S_isRow ds h Q X → ds.length = 1 := fun _ _ _ _ ⟨_, e, _⟩ => by rw [e]; rfl
theorem mo_isRow : MoF S_isRow := fun _ _ _ _ _ _ hq _ ⟨a, e, q⟩ => ⟨a, e, hq _ _ q⟩
end DL
namespace DL
open PySem PySem.Spec L2 C8
section
variable {X : Cx} {E : XK} {tg l : Expr} {wa : WE}
/-- a list or a tuple, walked -/
def iAny (wa : WE) : WI := fun ρ h R X => wa ρ h (fun x h1 => match x with
  | .tup xs => R xs (fun _ => True) h1
  | .tpl xs => R xs (fun _ => True) h1
  | .lst xs => R xs (fun _ => True) h1
  | .ref a => ∃ xs, h1 a = some (.lst xs) ∧ R xs (fun h => h a = some (.lst xs)) h1
  | _ => False) X
theorem u_any {a : WE} {ρ : EnvD} {h : AH} {X : KX} {R : List D → (AH → Prop) → AH → Prop} : iAny a ρ h R X = a ρ h (fun x h1 => match x with
  | .tup xs => R xs (fun _ => True) h1
  | .tpl xs => R xs (fun _ => True) h1
  | .lst xs => R xs (fun _ => True) h1
  | .ref a => ∃ xs, h1 a = some (.lst xs) ∧ R xs (fun h => h a = some (.lst xs)) h1
  | _ => False) X := rfl
/-- a sequence that does not change -/
def IsS (d : D) (xs : List D) : Prop := d = .tup xs ∨ d = .tpl xs ∨ d = .lst xs
theorem IsS.iter {d : D} {xs : List D} (t : IsS d xs) {ρ : EnvD} {h : AH} {X : KX} {i : Nat} {R : List D → (AH → Prop) → AH → Prop} (e : ρ[i]? = some (some d)) (k : R xs (fun _ => True) h) : iAny (wVar i) ρ h R X := by
  rw [u_any, u_var e]
  rcases t with rfl | rfl | rfl <;> exact k
end
/-! ### isinstance of an own class -/
structure IsiC (K : PySem.W.Frag) (C : Addr) : Prop where
  cl : Cls K C
  ha : PySem.W.findIn K (.ref C) "__class__" = some (some (.builtin "object.__class__"))
  hn : PySem.W.specialIn K (.builtin "object.__class__") "__get__" = some (some (.builtin "getset_descriptor.__get__"))
  ht : PySem.W.takesIn K (.builtin "object.__class__") = some true
  hm : PySem.W.mroIn K C (.type "object") = some true
theorem cst_ref {K : PySem.W.Frag} {mg : Str → Option Value} {x : Str} {C : Addr} (h : mg x = some (.ref C)) : Cst K mg x (.ref C) := ⟨⟨.ref C, _, h, rfl, fun _ => .ref C⟩⟩
section
variable {X : Cx}
def dIsiO (C : Addr) (ds : List D) (h : AH) (Q : KD) : Prop := ∃ x, ds = [x, .ref C] ∧ isI C x h ∧ Q (.bl true) h
end
end DL
namespace DL
open PySem PySem.Spec L2 C8
theorem cut_from {α : Type} (xs : List α) (n : Nat) : cutD xs (some (n : Int)) none = xs.drop n := by
  unfold cutD
  have e0 : HT.sIx xs.length xs.length none = xs.length := rfl
  rw [e0, HT.sIx_nat]
  by_cases h : n ≤ xs.length
  · rw [Nat.min_eq_left h]
    exact List.take_of_length_le (by rw [List.length_drop]; exact Nat.le_refl _)
  · rw [Nat.min_eq_right (by omega)]
    simp
    omega
end DL
namespace L2
open PySem PySem.Spec PyProof.Rows
mutual
/-- a pattern of texts: none takes all -/
inductive PatOk : Pattern → Option (List Str) → Prop
  | val {w : Str} {j p q} : PatOk (.MatchValue (.Constant (.str w) j p) q) (some [w])
  | or {ps : List Pattern} {ws : List Str} {q} (h : PatsOk ps ws) : PatOk (.MatchOr ps q) (some ws)
  | any {q} : PatOk (.MatchAs none none q) none
inductive PatsOk : List Pattern → List Str → Prop
  | nil : PatsOk [] []
  | cons {w : Str} {j p q} {ps : List Pattern} {ws : List Str} (h : PatsOk ps ws) : PatsOk (.MatchValue (.Constant (.str w) j p) q :: ps) (w :: ws)
end
def takesW : Option (List Str) → Str → Bool
  | none, _ => true
  | some ws, x => ws.any fun w => decide (x = w)
inductive CasesOk (X : Cx) : List MatchCase → List (Option (List Str) × TS) → Prop
  | nil : CasesOk X [] []
  | cons {p : Pattern} {o : Option (List Str)} {body : List Stmt} {t : TS} {rest : List MatchCase} {l : List (Option (List Str) × TS)} (hp : PatOk p o) (hb : PSs X body t) (r : CasesOk X rest l) : CasesOk X (⟨p, none, body⟩ :: rest) ((o, t) :: l)
end L2
namespace DL
open PySem PySem.Spec L2
/-- the cases of a match over a text -/
def pickM : List (Option (List Str) × WS) → Str → WS
  | [], _ => wSkip
  | (o, s) :: r, w => fun D ρ h => if takesW o w = true then s D ρ h else pickM r w D ρ h
section
variable {X : Cx} {E : XK} {e : Expr} {we : WE} {pos : Pos}
inductive ACs (X : Cx) (E : XK) : List MatchCase → List (Option (List Str) × WS) → Prop
  | nil : ACs X E [] []
  | cons {p : Pattern} {o : Option (List Str)} {body : List Stmt} {t : WS} {rest : List MatchCase} {l : List (Option (List Str) × WS)} (hp : PatOk p o) (hb : ASs X E body t) (r : ACs X E rest l) : ACs X E (⟨p, none, body⟩ :: rest) ((o, t) :: l)
theorem ACs.cs {cs : List MatchCase} {l : List (Option (List Str) × WS)} (h : ACs X E cs l) : CasesOk X cs (l.map fun x => (x.1, tS X.K E x.2)) := by
  induction h with
  | nil => exact .nil
  | cons hp hb r ih => exact .cons hp hb.run ih
theorem ACs.mo {cs : List MatchCase} {l : List (Option (List Str) × WS)} (h : ACs X E cs l) : ∀ w, MoS (pickM l w) := by
  induction h with
  | nil => intro w D D' ρ h l q; exact l.nx _ _ q
  | @cons p o body t rest l hp hb r ih =>
    intro w D D' ρ h le q
    unfold pickM at q ⊢
    by_cases c : takesW o w = true
    · rw [if_pos c] at q ⊢; exact hb.mo _ _ _ _ le q
    · rw [if_neg c] at q ⊢; exact ih w _ _ _ _ le q
end
end DL
namespace DL
open PySem PySem.Spec L2 C8
/-! ### two ways to read one thing (an instance of one class or of another) -/
def wOrE (a b : WE) : WE := fun ρ h Q X => a ρ h Q X ∨ b ρ h Q X
def wOrS (a b : WS) : WS := fun D ρ h => a D ρ h ∨ b D ρ h
section
variable {X : Cx} {E : XK} {e : Expr} {st : Stmt} {a b : WE} {s1 s2 : WS}
theorem AE.or (h1 : AE X E e a) (h2 : AE X E e b) : AE X E e (wOrE a b) := by
  refine ⟨⟨fun pins s σ H Q I h => ?_⟩, fun ρ h Q Q' X X' hq hx q => q.elim (fun q => .inl (h1.mo _ _ _ _ _ _ hq hx q)) (fun q => .inr (h2.mo _ _ _ _ _ _ hq hx q))⟩
  obtain ⟨F, ρ, g, S, R, q⟩ := h
  rcases q with q | q
  · exact h1.run.run pins s σ H Q I ⟨F, ρ, g, S, R, q⟩
  · exact h2.run.run pins s σ H Q I ⟨F, ρ, g, S, R, q⟩
theorem AS.or (h1 : AS X E st s1) (h2 : AS X E st s2) : AS X E st (wOrS s1 s2) := by
  refine ⟨⟨fun pins s σ H D I h => ?_⟩, fun D D' ρ h l q => q.elim (fun q => .inl (h1.mo _ _ _ _ l q)) (fun q => .inr (h2.mo _ _ _ _ l q))⟩
  obtain ⟨F, ρ, g, S, R, q⟩ := h
  rcases q with q | q
  · exact h1.run.run pins s σ H D I ⟨F, ρ, g, S, R, q⟩
  · exact h2.run.run pins s σ H D I ⟨F, ρ, g, S, R, q⟩
end
/-! ### starred parts -/
end DL
namespace DL
open PySem PySem.Spec L2 C8
/-- where the package's classes stand -/
structure Ad where
  Program : Addr := 0
  LineProgram : Addr := 0
  Walk : Addr := 0
  Ledger : Addr := 0
  Lengths : Addr := 0
  Kind : Addr := 0
  Machine : Addr := 0
  LateMachine : Addr := 0
  Trial : Addr := 0
  Group : Addr := 0
  Ground : Addr := 0
  BodyReader : Addr := 0
  Meter : Addr := 0
  Change : Addr := 0
  Desk : Addr := 0
  Account : Addr := 0
  EchoError : Addr := 0
  SizeError : Addr := 0
  AbsentError : Addr := 0
  InvalidProgram : Addr := 0
  InvalidMode : Addr := 0
  InvalidNumber : Addr := 0
  InvalidCapacity : Addr := 0
  InvalidRow : Addr := 0
  InvalidTable : Addr := 0
  InvalidAccount : Addr := 0
  InvalidReading : Addr := 0
  InvalidBound : Addr := 0
  InvalidText : Addr := 0
  Lossy : Addr := 0
  DifferentModes : Addr := 0
  Contradiction : Addr := 0
  UnknownCommand : Addr := 0
  TooLarge : Addr := 0
  TooLong : Addr := 0
  TooManyProcesses : Addr := 0
  Full : Addr := 0
  NoPlace : Addr := 0
  NoPoint : Addr := 0
  NoReading : Addr := 0
  NoName : Addr := 0
  NothingToUndo : Addr := 0
  Finished : Addr := 0
  t0 : Addr := 0
  t1 : Addr := 0
  t2 : Addr := 0
  t3 : Addr := 0
  t4 : Addr := 0
  t5 : Addr := 0
  t6 : Addr := 0
  t7 : Addr := 0
  t8 : Addr := 0
  t9 : Addr := 0
  t10 : Addr := 0
  t11 : Addr := 0
  t12 : Addr := 0
  t13 : Addr := 0
  t14 : Addr := 0
  t15 : Addr := 0
end DL
namespace PK
open PySem PySem.Spec L2 C8 DL
abbrev N_is_integer : List Str := ["value"]
abbrev N_is_between : List Str := ["value", "least", "most"]
end PK
namespace PK
open PySem PySem.Spec L2 C8 DL
/-! ### things: data of all kinds, no dict but {} -/
def bare (w : Str) : Bool := inD (.str w) [.str "line", .str "flush", .str "drop", .str "both", .str "exit", .str "quit"]
abbrev S_is_integer (z : Ad) : FSpec := S_isInt
abbrev S_is_between (z : Ad) : FSpec := S_isBtw
/-! ### actions and bodies -/
inductive Ac where
  | bare (w : Str) | write (n : Nat) | fork (b : List Ac) | rep (n : Nat) (b : List Ac)
mutual
def enc : Ac → D
  | .bare w => .tup [.str w]
  | .write n => .tup [.str "write", .int n]
  | .fork b => .tup [.str "fork", .tup (encs b)]
  | .rep n b => .tup [.str "repeat", .int n, .tup (encs b)]
def encs : List Ac → List D
  | [] => []
  | a :: r => enc a :: encs r
end
def word : Ac → Str
  | .bare w => w
  | .write _ => "write"
  | .fork _ => "fork"
  | .rep _ _ => "repeat"
def byt : Ac → Nat
  | .bare w => if w = "line" then 1 else 0
  | .write n => n
  | .fork _ => 0
  | .rep _ _ => 0
mutual
def sizA : Ac → Nat
  | .bare _ => 1
  | .write _ => 1
  | .fork b => 1 + sizB b
  | .rep n b => n * sizB b
def sizB : List Ac → Nat
  | [] => 0
  | a :: r => sizA a + sizB r
end
/-! .. a repeat of none counted as one -/
/-! all actions with their places -/
/-! the words, children behind their action -/
/-! ### programs: of the one class or the other -/
def clsOf (z : Ad) (lm : Bool) : Addr := if lm = true then z.LineProgram else z.Program
def prog (z : Ad) (lm : Bool) (b : List Ac) : D := .ob (clsOf z lm) [("held", .tup (encs b))]
/-! ### the walk -/
abbrev WSt := Nat × Nat × Bool
def leftS (lm : Bool) (a : Ac) (s : WSt) : WSt :=
  if word a = "exit" ∨ word a = "quit" then (0, s.2.1, s.2.2)
  else if word a = "flush" ∨ word a = "drop" ∨ (word a = "line" ∧ lm = true) then (s.1, 0, false)
  else (s.1, s.2.1 + byt a, s.2.2)
def passS (lm : Bool) (a : Ac) (s : WSt) : WSt :=
  if word a = "fork" then s else if word a = "both" then (2 * s.1, s.2.1, s.2.2) else leftS lm a s
def folS (lm : Bool) : List Ac → WSt → WSt
  | [], s => s
  | a :: r, s => folS lm r (passS lm a s)
structure Note where
  pt : Nat
  off : Nat
  amt : Int
  early : Bool
def note1 (p : Nat) (s : WSt) (v : Int) : List Note := if s.1 = 0 then [] else [⟨p, s.2.1, v, s.2.2⟩]
mutual
def noteA (lm : Bool) : Nat → Ac → WSt → List Note
  | p, .bare w, s => if w = "both" then note1 p s s.1 else if w = "drop" ∨ w = "quit" then note1 p s (-(s.1 : Int)) else []
  | _, .write _, _ => []
  | p, .fork b, s => note1 p s s.1 ++ noteB lm (p + 1) b s
  | _, .rep _ _, _ => []
def noteB (lm : Bool) : Nat → List Ac → WSt → List Note
  | _, [], _ => []
  | p, a :: r, s => noteA lm p a s ++ noteB lm (p + sizA a) r (passS lm a s)
end
end PK
namespace PK
open PySem PySem.Spec L2 C8 DL
/-! ### the readings -/
def w_is_integer (z : Ad) : WS := (wRet (wAndV (wB dIsi (wCons (wVar 0) (wCons (wC (.ty "int")) wNil))) (wNotV (wB dIsi (wCons (wVar 0) (wCons (wC (.ty "bool")) wNil))))))
def w_is_between (z : Ad) : WS := (wRet (wAndV (wCallP (S_is_integer z) 1 (fun ds _ => ds) (wCons (wVar 0) wNil)) (wChain (dCmpI fun i j => decide (i ≤ j)) (dCmpI fun i j => decide (i ≤ j)) (wVar 1) (wVar 0) (wVar 2))))
end PK
namespace PK
open PySem PySem.Spec L2 C8 DL
theorem p_is_integer (z : Ad) : ∀ ds h Q X, S_is_integer z ds h Q X → w_is_integer z (endsD Q X) (startD 1 ds) h := pr_isInt
theorem len_is_integer (z : Ad) : ∀ ds h Q X, S_is_integer z ds h Q X → ds.length = 1 := len_isInt
theorem mo_is_integer (z : Ad) : MoF (S_is_integer z) := mo_isInt
theorem p_is_between (z : Ad) : ∀ ds h Q X, S_is_between z ds h Q X → w_is_between z (endsD Q X) (startD 3 ds) h := pr_isBtw
theorem len_is_between (z : Ad) : ∀ ds h Q X, S_is_between z ds h Q X → ds.length = 3 := len_isBtw
theorem mo_is_between (z : Ad) : MoF (S_is_between z) := mo_isBtw
/-! things -/
/-! is_head -/
theorem big_size : 100000 ≤ sizeLine := by decide
end PK
namespace PK
open PySem PySem.Spec L2 C8 DL
/-! ### loops over what is left -/
/-! ### typed lists -/
end PK
namespace PK
open PySem PySem.Spec L2 C8 DL
theorem sz_le {n : Nat} (h : n ≤ 100000) : n ≤ sizeLine := Nat.le_trans h big_size
end PK
namespace PK
open PySem PySem.Spec L2 C8 DL
end PK
namespace PK
open PySem PySem.Spec L2 C8 DL
end PK
namespace PK
open PySem PySem.Spec L2 C8 DL
end PK
namespace PK
open PySem PySem.Spec L2 C8 DL
end PK
namespace PK
open PySem PySem.Spec L2 C8 DL
end PK
namespace PK
open PySem PySem.Spec L2 C8 DL
end PK
namespace PK
open PySem PySem.Spec L2 C8 DL
end PK
namespace PK
open PySem PySem.Spec L2 C8 DL
/-! ### more for families of laws -/
end PK
namespace PK
open PySem PySem.Spec L2 C8 DL
/-! ### bodies and words may be shown -/
structure Rps (xs : List D) (k n : Nat) : Prop where
  da : dats xs = true
  sh : PyData.showableAll (pds xs) = true
  de : PyData.depthAll (pds xs) ≤ k
  le : ((PyData.shownAll (pds xs)).map fun t => t.length + 2).sum ≤ n
theorem Rps.up {xs : List D} {k n l m : Nat} (r : Rps xs k n) (h1 : k ≤ l) (h2 : n ≤ m) : Rps xs l m := ⟨r.da, r.sh, Nat.le_trans r.de h1, Nat.le_trans r.le h2⟩
end PK
namespace DL
open PySem PySem.Spec L2 C8
/-! ### the draw of the laws k22-k35, k92 .. -/
def w_draw3 : WS := (wSeq (wIfS (wTest (wOp (dCmpI fun i j => decide (j < i)) (wOp dIx (wVar 0) (wC (.int 2))) (wC (.int 0)))) (wSeq (wAsg (wOp dMod (wOp dIx (wVar 0) (wC (.int 2))) (wVar 1)) (gN 2))
  (wSeq (wAsg (wOp dDiv (wOp dIx (wVar 0) (wC (.int 2))) (wVar 1)) (gSubL (wVar 0) (wC (.int 2))))
  (wRet (wVar 2)))) wSkip)
  (wSeq (wAsg (wOp dIx (wVar 0) (wC (.int 1))) (gN 3))
  (wSeq (wAsg (wOp (dAdd false) (wVar 3) (wC (.int 1))) (gSubL (wVar 0) (wC (.int 1))))
  (wSeq (wAsg (wOp (dAdd false) (wOp (dMul false) (wC (.int 4519)) (wVar 3)) (wC (.int 631))) (gN 4))
  (wSeq (wIfS (wTest (wOp (dEq fun b => !b) (wOp dIx (wVar 0) (wC (.int 0))) (wLst false wNil))) (wAsg (wOp dIx (wOp dIx (wVar 0) (wC (.int 0))) (wOp dMod (wVar 3) (wB dLen (wCons (wOp dIx (wVar 0) (wC (.int 0))) wNil)))) (gN 4)) wSkip)
  (wSeq (wIfS (wAnd (wTest (wOp (dCmpI fun i j => decide (i < j)) (wVar 3) (wB dLen (wCons (wOp dIx (wVar 0) (wC (.int 0))) wNil)))) (wTest (wOp (dCmpI fun i j => decide (j ≤ i)) (wB dAbs (wCons (wVar 4) wNil)) (wOp dPow (wC (.int 10)) (wC (.int 18)))))) (wSeq (wAsg (wOp (dAdd false) (wOp (dMul false) (wC (.int 2)) (wB dAbs (wCons (wVar 4) wNil))) (wB dInt (wCons (wOp (dCmpI fun i j => decide (i < j)) (wVar 4) (wC (.int 0))) wNil))) (gN 5))
  (wSeq (wAsg (wOp dDiv (wVar 5) (wVar 1)) (gSubL (wVar 0) (wC (.int 2))))
  (wRet (wOp dMod (wVar 5) (wVar 1))))) wSkip)
  (wSeq (wAsg (wOp dMod (wOp dPow (wOp (dAdd false) (wOp (dAdd false) (wOp dMod (wVar 4) (wC (.int 2147483423))) (wOp (dMul false) (wC (.int 61007)) (wVar 3))) (wC (.int 179))) (wC (.int 5))) (wC (.int 2147483647))) (gN 6))
  (wSeq (wAsg (wOp dMod (wOp dPow (wOp (dAdd false) (wOp (dAdd false) (wOp (dMul false) (wVar 6) (wOp (dAdd false) (wVar 3) (wC (.int 30011)))) (wOp (dMul false) (wOp (dMul false) (wC (.int 73013)) (wVar 3)) (wVar 3))) (wC (.int 37))) (wC (.int 3))) (wC (.int 2147483563))) (gN 6))
  (wRet (wOp dMod (wOp dDiv (wVar 6) (wC (.int 32))) (wVar 1)))))))))))
theorem p_draw3 : ∀ ds h Q X, S_draw ds h Q X → w_draw3 (endsD Q X) (startD 7 ds) h := by
  rintro ds h Q X ⟨n, p, m, rfl, ⟨_, hp, cs, at_, gr, rfl, l1, l2, l3, l4⟩, hn, dm, q⟩
  show w_draw3 (endsD Q X) [some (.ref p), some (.int m), none, none, none, none, none] h
  have hm : 0 < m := dm.1
  unfold w_draw3
  rw [u_seq]
  simp only [u_asg, u_gN, u_ret, u_retN, u_skip, u_expr, u_ifs, u_c, u_op, u_neg, u_test, u_and, u_or, u_not, u_if, u_nil, u_cons, u_tup, u_lst, u_callP, u_call, u_b, u_chain, u_andV, u_addI, u_subI, u_mulI, u_divI, u_modI, u_powI, u_cmpI, u_eqI, u_eqS, u_eqB, u_abs, u_intI, u_intB, u_newT, u_newF, u_isN, u_notN, wVar, List.set_cons_zero, List.set_cons_succ, List.getElem?_cons_zero, List.getElem?_cons_succ, List.length_cons, List.length_nil, u_ixRd hp at2]
  by_cases c : 0 < gr
  · simp only [decide_eq_true c, if_true, u_seq, u_asg, u_gN, u_ret, u_retN, u_skip, u_expr, u_ifs, u_c, u_op, u_neg, u_test, u_and, u_or, u_not, u_if, u_nil, u_cons, u_tup, u_lst, u_callP, u_call, u_b, u_chain, u_andV, u_addI, u_subI, u_mulI, u_divI, u_modI, u_powI, u_cmpI, u_eqI, u_eqS, u_eqB, u_abs, u_intI, u_intB, u_newT, u_newF, u_isN, u_notN, wVar, List.set_cons_zero, List.set_cons_succ, List.getElem?_cons_zero, List.getElem?_cons_succ, List.length_cons, List.length_nil, u_ixRd hp at2, gSubL]
    refine ⟨hm, dm, p, _, 2, 2, rfl, rfl, hp, rfl, fin_of (q _ _ (Int.emod_nonneg _ (by omega)) (Int.emod_lt_of_pos _ hm) ⟨cs, at_, gr / m, rfl, l1, l2, by omega, Int.ediv_nonneg l4 (by omega)⟩)⟩
  simp only [decide_eq_false c, Bool.false_eq_true, if_false]
  rw [u_seq]
  simp only [u_asg, u_gN, u_ret, u_retN, u_skip, u_expr, u_ifs, u_c, u_op, u_neg, u_test, u_and, u_or, u_not, u_if, u_nil, u_cons, u_tup, u_lst, u_callP, u_call, u_b, u_chain, u_andV, u_addI, u_subI, u_mulI, u_divI, u_modI, u_powI, u_cmpI, u_eqI, u_eqS, u_eqB, u_abs, u_intI, u_intB, u_newT, u_newF, u_isN, u_notN, wVar, List.set_cons_zero, List.set_cons_succ, List.getElem?_cons_zero, List.getElem?_cons_succ, List.length_cons, List.length_nil, u_ixRd hp at1]
  rw [u_seq]
  simp only [u_asg, u_gN, u_ret, u_retN, u_skip, u_expr, u_ifs, u_c, u_op, u_neg, u_test, u_and, u_or, u_not, u_if, u_nil, u_cons, u_tup, u_lst, u_callP, u_call, u_b, u_chain, u_andV, u_addI, u_subI, u_mulI, u_divI, u_modI, u_powI, u_cmpI, u_eqI, u_eqS, u_eqB, u_abs, u_intI, u_intB, u_newT, u_newF, u_isN, u_notN, wVar, List.set_cons_zero, List.set_cons_succ, List.getElem?_cons_zero, List.getElem?_cons_succ, List.length_cons, List.length_nil, gSubL]
  refine ⟨p, _, 1, 1, rfl, rfl, hp, rfl, ?_⟩
  have e1 : ([D.lst (cs.map D.int), D.int at_, D.int gr].set 1 (D.int (at_ + 1))) = [D.lst (cs.map D.int), D.int (at_ + 1), D.int gr] := rfl
  rw [e1]
  have ug : ∀ o, up (up h p (.lst [D.lst (cs.map D.int), D.int (at_ + 1), D.int gr])) p o = up h p o := fun o => up_up
  have gp : (up h p (.lst [D.lst (cs.map D.int), D.int (at_ + 1), D.int gr])) p = some (.lst [D.lst (cs.map D.int), D.int (at_ + 1), D.int gr]) := up_same
  have fin0 : ∀ v, 0 ≤ v → v < m → Q (.int v) (up h p (.lst [D.lst (cs.map D.int), D.int (at_ + 1), D.int gr])) := fun v h1 h2 => q v _ h1 h2 ⟨cs, at_ + 1, gr, rfl, l1, by omega, by omega, l4⟩
  have fin1 : ∀ v g, 0 ≤ v → v < m → 0 ≤ g → Q (.int v) (up h p (.lst [D.lst (cs.map D.int), D.int (at_ + 1), D.int g])) := fun v g h1 h2 h3 => q v _ h1 h2 ⟨cs, at_ + 1, g, rfl, l1, by omega, by omega, h3⟩
  generalize hg : up h p (.lst [D.lst (cs.map D.int), D.int (at_ + 1), D.int gr]) = g at gp ug fin0 ⊢
  rw [u_seq]
  simp only [u_asg, u_gN, u_ret, u_retN, u_skip, u_expr, u_ifs, u_c, u_op, u_neg, u_test, u_and, u_or, u_not, u_if, u_nil, u_cons, u_tup, u_lst, u_callP, u_call, u_b, u_chain, u_andV, u_addI, u_subI, u_mulI, u_divI, u_modI, u_powI, u_cmpI, u_eqI, u_eqS, u_eqB, u_abs, u_intI, u_intB, u_newT, u_newF, u_isN, u_notN, wVar, List.set_cons_zero, List.set_cons_succ, List.getElem?_cons_zero, List.getElem?_cons_succ, List.length_cons, List.length_nil]
  refine ⟨mul_l (by decide), ?_⟩
  -- the cell
  refine seq_go (fun ρ h => g = h ∧ ∃ c : Int, ρ = [some (.ref p), some (.int m), none, some (.int at_), some (.int c), none, none]) (fun K k => ?_) ?_
  · simp only [u_asg, u_gN, u_ret, u_retN, u_skip, u_expr, u_ifs, u_c, u_op, u_neg, u_test, u_and, u_or, u_not, u_if, u_nil, u_cons, u_tup, u_lst, u_callP, u_call, u_b, u_chain, u_andV, u_addI, u_subI, u_mulI, u_divI, u_modI, u_powI, u_cmpI, u_eqI, u_eqS, u_eqB, u_abs, u_intI, u_intB, u_newT, u_newF, u_isN, u_notN, wVar, List.set_cons_zero, List.set_cons_succ, List.getElem?_cons_zero, List.getElem?_cons_succ, List.length_cons, List.length_nil, u_ixRd gp at0]
    refine ⟨Nat.zero_le _, eq_nil ?_⟩
    by_cases z : cs = []
    · rw [decide_eq_true z]
      exact k _ _ ⟨rfl, _, rfl⟩
    rw [decide_eq_false z]
    simp only [Bool.not_false, if_true, u_ixRd gp at0, u_lenL, u_modI, u_ixL]
    have lc : 0 < cs.length := List.length_pos_iff.mpr z
    have lp : (0 : Int) < ((cs.map D.int).length : Nat) := by rw [List.length_map]; omega
    refine ⟨lp, ?_⟩
    have a0 := Int.emod_nonneg at_ (show (((cs.map D.int).length : Nat) : Int) ≠ 0 by omega)
    have a1 := Int.emod_lt_of_pos at_ lp
    obtain ⟨j, ej⟩ := Int.eq_ofNat_of_zero_le a0
    rw [ej] at a1 ⊢
    rw [List.length_map] at a1
    have lj : j < cs.length := by omega
    refine ⟨.int cs[j], ?_, k _ _ ⟨rfl, _, rfl⟩⟩
    rw [atI_nat (by rw [List.length_map]; exact lj), List.getElem?_map, List.getElem?_eq_getElem lj]
    rfl
  rintro _ _ ⟨rfl, c, rfl⟩
  refine seq_go (fun ρ h => g = h ∧ ρ = [some (.ref p), some (.int m), none, some (.int at_), some (.int c), none, none]) (fun K k => ?_) ?_
  · simp only [u_asg, u_gN, u_ret, u_retN, u_skip, u_expr, u_ifs, u_c, u_op, u_neg, u_test, u_and, u_or, u_not, u_if, u_nil, u_cons, u_tup, u_lst, u_callP, u_call, u_b, u_chain, u_andV, u_addI, u_subI, u_mulI, u_divI, u_modI, u_powI, u_cmpI, u_eqI, u_eqS, u_eqB, u_abs, u_intI, u_intB, u_newT, u_newF, u_isN, u_notN, wVar, List.set_cons_zero, List.set_cons_succ, List.getElem?_cons_zero, List.getElem?_cons_succ, List.length_cons, List.length_nil, u_ixRd gp at0, u_lenL]
    have k := k _ _ ⟨rfl, rfl⟩
    by_cases z : at_ < ((cs.map D.int).length : Nat)
    · rw [decide_eq_true z]
      simp only [if_true]
      refine ⟨by refine ⟨by decide, by decide, by decide⟩, ?_⟩
      by_cases y : (10 ^ Int.toNat 18 : Int) ≤ if c < 0 then -c else c
      · rw [if_pos (decide_eq_true y)]
        simp only [u_seq, u_asg, u_gN, u_ret, u_retN, u_skip, u_expr, u_ifs, u_c, u_op, u_neg, u_test, u_and, u_or, u_not, u_if, u_nil, u_cons, u_tup, u_lst, u_callP, u_call, u_b, u_chain, u_andV, u_addI, u_subI, u_mulI, u_divI, u_modI, u_powI, u_cmpI, u_eqI, u_eqS, u_eqB, u_abs, u_intI, u_intB, u_newT, u_newF, u_isN, u_notN, wVar, List.set_cons_zero, List.set_cons_succ, List.getElem?_cons_zero, List.getElem?_cons_succ, List.length_cons, List.length_nil, gSubL]
        have nn : 0 ≤ 2 * (if c < 0 then -c else c) + (if decide (c < 0) = true then 1 else 0) := by split <;> split <;> omega
        refine ⟨mul_l (by decide), dm, p, _, 2, 2, rfl, rfl, gp, rfl, hm, fin_of ?_⟩
        rw [ug]
        exact fin1 _ _ (Int.emod_nonneg _ (by omega)) (Int.emod_lt_of_pos _ hm) (Int.ediv_nonneg nn (by omega))
      · rw [if_neg (by rw [decide_eq_false y]; decide)]
        exact k
    · rw [decide_eq_false z]
      exact k
  rintro _ _ ⟨rfl, rfl⟩
  simp only [u_seq, u_asg, u_gN, u_ret, u_retN, u_skip, u_expr, u_ifs, u_c, u_op, u_neg, u_test, u_and, u_or, u_not, u_if, u_nil, u_cons, u_tup, u_lst, u_callP, u_call, u_b, u_chain, u_andV, u_addI, u_subI, u_mulI, u_divI, u_modI, u_powI, u_cmpI, u_eqI, u_eqS, u_eqB, u_abs, u_intI, u_intB, u_newT, u_newF, u_isN, u_notN, wVar, List.set_cons_zero, List.set_cons_succ, List.getElem?_cons_zero, List.getElem?_cons_succ, List.length_cons, List.length_nil]
  have b1 : 0 ≤ c % 2147483423 := Int.emod_nonneg _ (by decide)
  have b2 : c % 2147483423 < 2147483423 := Int.emod_lt_of_pos _ (by decide)
  have b3 : at_ ≤ 1000000 := by omega
  have b4 : 73013 * at_ * at_ ≤ 73013 * 1000000000000 := by
    rw [Int.mul_assoc]
    have := sq_le l2 b3
    omega
  have b5 : 0 ≤ 73013 * at_ * at_ := Int.mul_nonneg (by omega) l2
  generalize e6 : (c % 2147483423 + 61007 * at_ + 179) = u
  have b6 : 0 ≤ u ∧ u < 2 ^ 63 := by omega
  generalize e7 : u ^ Int.toNat 5 % 2147483647 = v
  have b7 : 0 ≤ v ∧ v < 2147483647 := by rw [← e7]; exact ⟨Int.emod_nonneg _ (by decide), Int.emod_lt_of_pos _ (by decide)⟩
  have b8 : v * (at_ + 30011) ≤ 2147483647 * (1000000 + 30011) := Int.mul_le_mul (by omega) (by omega) (by omega) (by omega)
  have b9 : 0 ≤ v * (at_ + 30011) := Int.mul_nonneg b7.1 (by omega)
  generalize e5 : 73013 * at_ * at_ = t at b4 b5 ⊢
  refine ⟨by decide, mul_l (by decide), ⟨by decide, by decide, by omega⟩, by decide, mul_l (by omega), mul_l (by decide), mul_l (by omega), ⟨by decide, by decide, by omega⟩, by decide, ⟨by decide, .inl (by decide)⟩, hm, fin_of (fin0 _ (Int.emod_nonneg _ (by omega)) (Int.emod_lt_of_pos _ hm))⟩
end DL
namespace F4
open PySem PySem.Spec L2 C8 DL PK
abbrev S__law_pen (z : Ad) : FSpec := S_pen
abbrev S__law_draw (z : Ad) : FSpec := S_draw
/-! bodies as lists -/
/-! rows: word, bytes, state ahead -/
abbrev Row := Str × Nat × WSt
def rowD5 (r : Row) : D := .tup [.str r.1, .int (r.2.1 : Nat), .int (r.2.2.1 : Nat), .int (r.2.2.2.1 : Nat), .bl r.2.2.2.2]
mutual
def rwA (lm : Bool) : Ac → WSt → List Row
  | .bare w, s => [(w, byt (.bare w), s)]
  | .write n, s => [("write", n, s)]
  | .fork b, s => ("fork", 0, s) :: rwB lm b s
  | .rep _ _, s => [("repeat", 0, s)]
def rwB (lm : Bool) : List Ac → WSt → List Row
  | [], _ => []
  | a :: r, s => rwA lm a s ++ rwB lm r (passS lm a s)
end
def stL (s : WSt) : List D := [.int (s.1 : Nat), .int (s.2.1 : Nat), .bl s.2.2]
end F4
namespace F4
open PySem PySem.Spec L2 C8 DL PK
/-! ### the readings -/
def w__law_pen (z : Ad) : WS := (wRet (wLst true (wCons (wB (dListOf false) (wCons (wSl false (wVar 0) woNone (woSome (wC (.int 63)))) wNil)) (wCons (wC (.int 0)) (wCons (wC (.int 0)) wNil)))))
def w__law_draw (z : Ad) : WS := (wSeq (wIfS (wTest (wOp (dCmpI fun i j => decide (j < i)) (wOp dIx (wVar 0) (wC (.int 2))) (wC (.int 0)))) (wSeq (wAsg (wOp dMod (wOp dIx (wVar 0) (wC (.int 2))) (wVar 1)) (gN 2))
  (wSeq (wAsg (wOp dDiv (wOp dIx (wVar 0) (wC (.int 2))) (wVar 1)) (gSubL (wVar 0) (wC (.int 2))))
  (wRet (wVar 2)))) wSkip)
  (wSeq (wAsg (wOp dIx (wVar 0) (wC (.int 1))) (gN 3))
  (wSeq (wAsg (wOp (dAdd false) (wVar 3) (wC (.int 1))) (gSubL (wVar 0) (wC (.int 1))))
  (wSeq (wAsg (wOp (dAdd false) (wOp (dMul false) (wC (.int 4519)) (wVar 3)) (wC (.int 631))) (gN 4))
  (wSeq (wIfS (wTest (wOp (dEq fun b => !b) (wOp dIx (wVar 0) (wC (.int 0))) (wLst false wNil))) (wAsg (wOp dIx (wOp dIx (wVar 0) (wC (.int 0))) (wOp dMod (wVar 3) (wB dLen (wCons (wOp dIx (wVar 0) (wC (.int 0))) wNil)))) (gN 4)) wSkip)
  (wSeq (wIfS (wAnd (wTest (wOp (dCmpI fun i j => decide (i < j)) (wVar 3) (wB dLen (wCons (wOp dIx (wVar 0) (wC (.int 0))) wNil)))) (wTest (wOp (dCmpI fun i j => decide (j ≤ i)) (wB dAbs (wCons (wVar 4) wNil)) (wOp dPow (wC (.int 10)) (wC (.int 18)))))) (wSeq (wAsg (wOp (dAdd false) (wOp (dMul false) (wC (.int 2)) (wB dAbs (wCons (wVar 4) wNil))) (wB dInt (wCons (wOp (dCmpI fun i j => decide (i < j)) (wVar 4) (wC (.int 0))) wNil))) (gN 5))
  (wSeq (wAsg (wOp dDiv (wVar 5) (wVar 1)) (gSubL (wVar 0) (wC (.int 2))))
  (wRet (wOp dMod (wVar 5) (wVar 1))))) wSkip)
  (wSeq (wAsg (wOp dMod (wOp dPow (wOp (dAdd false) (wOp (dAdd false) (wOp dMod (wVar 4) (wC (.int 2147483423))) (wOp (dMul false) (wC (.int 61007)) (wVar 3))) (wC (.int 179))) (wC (.int 5))) (wC (.int 2147483647))) (gN 6))
  (wSeq (wAsg (wOp dMod (wOp dPow (wOp (dAdd false) (wOp (dAdd false) (wOp (dMul false) (wVar 6) (wOp (dAdd false) (wVar 3) (wC (.int 30011)))) (wOp (dMul false) (wOp (dMul false) (wC (.int 73013)) (wVar 3)) (wVar 3))) (wC (.int 37))) (wC (.int 3))) (wC (.int 2147483563))) (gN 6))
  (wRet (wOp dMod (wOp dDiv (wVar 6) (wC (.int 32))) (wVar 1)))))))))))
end F4
namespace F4
open PySem PySem.Spec L2 C8 DL PK
theorem p__law_pen (z : Ad) : ∀ ds h Q X, S__law_pen z ds h Q X → w__law_pen z (endsD Q X) (startD 1 ds) h := p_pen
theorem len__law_pen (z : Ad) : ∀ ds h Q X, S__law_pen z ds h Q X → ds.length = 1 := len_pen
theorem mo__law_pen (z : Ad) : MoF (S__law_pen z) := mo_pen
theorem p__law_draw (z : Ad) : ∀ ds h Q X, S__law_draw z ds h Q X → w__law_draw z (endsD Q X) (startD 7 ds) h := p_draw3
theorem len__law_draw (z : Ad) : ∀ ds h Q X, S__law_draw z ds h Q X → ds.length = 2 := len_draw
theorem mo__law_draw (z : Ad) : MoF (S__law_draw z) := mo_draw
end F4
namespace PK
open PySem PySem.Spec L2 C8 DL
end PK
namespace DL
open PySem PySem.Spec L2 C8
/-! ### the ledger's methods -/
def InR (es : Prs) : Prop := ∀ e ∈ es, 0 ≤ e.1 ∧ e.1 ≤ 1000000
theorem InR.append {es fs : Prs} (a : InR es) (b : InR fs) : InR (es ++ fs) := fun e he => by
  rcases List.mem_append.mp he with h | h
  · exact a e h
  · exact b e h
theorem Led.inR {es rows : Prs} (h : Led es (amt rows)) (r : InR rows) : InR es := fun e he => by
  obtain ⟨h1, h2⟩ := (h.mem e.1 e.2).mp he
  have : hasI rows e.1 = true := by
    cases c : hasI rows e.1 with
    | true => rfl
    | false =>
      exfalso
      have : amt rows e.1 = 0 := by
        clear h he h1 h2 r
        induction rows with
        | nil => rfl
        | cons x rows ih =>
          have c : (decide (x.1 = e.1) || hasI rows e.1) = false := c
          rw [Bool.or_eq_false_iff] at c
          rw [amt_cons, if_neg (by simpa using c.1), ih c.2]; rfl
      omega
  obtain ⟨v, m⟩ := hasI_iff.mp this
  exact r (e.1, v) m
def S_init (C : Addr) : FSpec := fun ds h Q _ => ∃ (a : Addr) (rows : Prs), ds = [.ref a, .tup (rows.map pairD)] ∧ h a = some (.ins C []) ∧ InR rows ∧ rows.length ≤ 10000 ∧
  ∀ es, Led es (amt rows) → es.length ≤ rows.length → Q .non (up h a (.ins C [("amounts", .dK (toK es))]))
def wr_init (C : Addr) : WS := (wSeq (wAsg wDnew (gN 2))
  (wSeq (wFor (iNum (wCons (wVar 1) wNil)) (gT 2 (gsCons (gN 3) (gsCons (gN 4) gsNil))) (wSeq (wIfS (wNot (wTest (wCallP S_isRow 1 (fun ds _ => ds) (wCons (wVar 4) wNil)))) wNever wSkip)
  (wDput (wVar 2) (wOp dIx (wVar 4) (wC (.int 0))) (wOp (dAdd false) (wGet2 (wVar 2) (wOp dIx (wVar 4) (wC (.int 0))) (wC (.int 0))) (wOp dIx (wVar 4) (wC (.int 1)))))))
  (wSetF C "amounts" (wVar 0) (wDc false (iSeq (wB (dSortD false) (wCons (wVar 2) wNil))) (gN 5) (wTest (wOp (dEq fun b => !b) (wDGet (wVar 2) (wVar 5)) (wC (.int 0)))) (wVar 5) (wDGet (wVar 2) (wVar 5)) [5]))))
theorem big_size : 100000 ≤ sizeLine := by decide
theorem get_pairs {rows : Prs} {i : Nat} {y : D} (h : (rows.map pairD)[i]? = some y) : ∃ r, rows[i]? = some r ∧ y = pairD r ∧ i < rows.length := by
  rw [List.getElem?_map] at h
  cases e : rows[i]? with
  | none => rw [e] at h; cases h
  | some r => rw [e] at h; cases h; exact ⟨r, rfl, rfl, (List.getElem?_eq_some_iff.mp e).1⟩
theorem amt_take {rows : Prs} {i : Nat} {r : Int × Int} (h : rows[i]? = some r) {k : Int} : amt (rows.take (i + 1)) k = amt (rows.take i) k + if r.1 = k then r.2 else 0 := by
  rw [List.take_add_one, h, Option.toList_some, amt_append, amt_cons, amt_nil, Int.add_zero]
theorem pr_init (C : Addr) : ∀ ds h Q X, S_init C ds h Q X → wr_init C (endsD Q X) (startD 6 ds) h := by
  rintro ds h Q X ⟨a, rows, rfl, ha, hr, hl, q⟩
  show wr_init C (endsD Q X) [some (.ref a), some (.tup (rows.map pairD)), none, none, none, none] h
  have big := big_size
  unfold wr_init
  rw [u_seq]
  simp only [u_asg, u_gN, u_ret, u_retN, u_skip, u_expr, u_ifs, u_c, u_op, u_neg, u_test, u_and, u_or, u_not, u_if, u_nil, u_cons, u_tup, u_lst, u_callP, u_call, u_b, u_chain, u_andV, u_addI, u_subI, u_mulI, u_divI, u_modI, u_powI, u_cmpI, u_eqI, u_eqS, u_eqB, u_abs, u_intI, u_intB, u_newT, u_newF, u_isN, u_notN, wVar, List.set_cons_zero, List.set_cons_succ, List.getElem?_cons_zero, List.getElem?_cons_succ, List.length_cons, List.length_nil, u_lc, u_for, u_r1, u_r2, u_r3, u_num, u_notV, u_yes, u_w0, u_w1, u_dnew]
  intro p hp
  have pa : a ≠ p := by rintro rfl; rw [ha] at hp; cases hp
  rw [u_seq]
  simp only [u_asg, u_gN, u_ret, u_retN, u_skip, u_expr, u_ifs, u_c, u_op, u_neg, u_test, u_and, u_or, u_not, u_if, u_nil, u_cons, u_tup, u_lst, u_callP, u_call, u_b, u_chain, u_andV, u_addI, u_subI, u_mulI, u_divI, u_modI, u_powI, u_cmpI, u_eqI, u_eqS, u_eqB, u_abs, u_intI, u_intB, u_newT, u_newF, u_isN, u_notN, wVar, List.set_cons_zero, List.set_cons_succ, List.getElem?_cons_zero, List.getElem?_cons_succ, List.length_cons, List.length_nil, u_lc, u_for, u_r1, u_r2, u_r3, u_num, u_notV, u_yes, u_w0, u_w1]
  refine loop_go (fun i ρ h' => ∃ (es : Prs) (b c : Option D), ρ = [some (.ref a), some (.tup (rows.map pairD)), some (.ref p), b, c, none] ∧ h' = up h p (.dK (toK es)) ∧ (es.map (·.1)).Nodup ∧ (∀ k, getI es k = amt (rows.take i) k) ∧ es.length ≤ i) ⟨[], _, _, rfl, rfl, List.nodup_nil, fun k => rfl, Nat.le_refl _⟩ (fun _ _ _ _ => trivial) ?_ ?_
  · rintro i x _ _ K hi ⟨es, b, c, rfl, rfl, nd, hg, le⟩ k
    obtain ⟨y, hy, rfl⟩ := numD_get hi
    obtain ⟨r, hr1, rfl, li⟩ := get_pairs hy
    have rr := hr r (List.mem_of_getElem? hr1)
    refine ⟨_, rfl, rfl, _, _, rfl, _, _, rfl, rfl, ?_⟩
    simp only [u_asg, u_gN, u_ret, u_retN, u_skip, u_expr, u_ifs, u_c, u_op, u_neg, u_test, u_and, u_or, u_not, u_if, u_nil, u_cons, u_tup, u_lst, u_callP, u_call, u_b, u_chain, u_andV, u_addI, u_subI, u_mulI, u_divI, u_modI, u_powI, u_cmpI, u_eqI, u_eqS, u_eqB, u_abs, u_intI, u_intB, u_newT, u_newF, u_isN, u_notN, wVar, List.set_cons_zero, List.set_cons_succ, List.getElem?_cons_zero, List.getElem?_cons_succ, List.length_cons, List.length_nil, u_lc, u_for, u_r1, u_r2, u_r3, u_num, u_notV, u_yes, u_w0, u_w1]
    refine ⟨rfl, r, rfl, ?_⟩
    rw [decide_eq_true rr.1, decide_eq_true rr.2]
    simp only [Bool.and_self, Bool.not_true, Bool.false_eq_true, if_false, u_dput, u_get2, u_asg, u_gN, u_ret, u_retN, u_skip, u_expr, u_ifs, u_c, u_op, u_neg, u_test, u_and, u_or, u_not, u_if, u_nil, u_cons, u_tup, u_lst, u_callP, u_call, u_b, u_chain, u_andV, u_addI, u_subI, u_mulI, u_divI, u_modI, u_powI, u_cmpI, u_eqI, u_eqS, u_eqB, u_abs, u_intI, u_intB, u_newT, u_newF, u_isN, u_notN, wVar, List.set_cons_zero, List.set_cons_succ, List.getElem?_cons_zero, List.getElem?_cons_succ, List.length_cons, List.length_nil, u_lc, u_for, u_r1, u_r2, u_r3, u_num, u_notV, u_yes, u_w0, u_w1, ix_p0, ix_p1]
    refine ⟨by simp [dkOf], toK es, _, by simp [dkOf], rfl, ?_⟩
    rw [val_getD, u_addI]
    refine ⟨p, toK es, _, rfl, up_same, rfl, by rw [toK_len]; omega, ?_⟩
    rw [up_up, putD_toK]
    refine k _ _ ⟨_, _, _, rfl, rfl, nodup_put nd, fun j => ?_, Nat.le_trans len_put (by omega)⟩
    rw [getI_put, amt_take hr1]
    by_cases e : j = r.1
    · subst e; rw [if_pos rfl, if_pos rfl, hg]
    · rw [if_neg e, if_neg (fun z => e z.symm), hg, Int.add_zero]
  · rintro _ _ ⟨es, b, c, rfl, rfl, nd, hg, le⟩
    rw [numD_len, List.length_map] at hg le
    rw [List.take_length] at hg
    simp only [u_setF, u_dc, u_seqi, u_asg, u_gN, u_ret, u_retN, u_skip, u_expr, u_ifs, u_c, u_op, u_neg, u_test, u_and, u_or, u_not, u_if, u_nil, u_cons, u_tup, u_lst, u_callP, u_call, u_b, u_chain, u_andV, u_addI, u_subI, u_mulI, u_divI, u_modI, u_powI, u_cmpI, u_eqI, u_eqS, u_eqB, u_abs, u_intI, u_intB, u_newT, u_newF, u_isN, u_notN, wVar, List.set_cons_zero, List.set_cons_succ, List.getElem?_cons_zero, List.getElem?_cons_succ, List.length_cons, List.length_nil, u_lc, u_for, u_r1, u_r2, u_r3, u_num, u_notV, u_yes, u_w0, u_w1]
    refine ⟨.ref p, toK es, es.map (·.1), rfl, by simp [dkOf], toK_keys es, fun ys hp1 hp2 => ?_⟩
    rw [u_newF]
    intro p2 hp2'
    have ndy : ys.Nodup := hp1.nodup_iff.mpr nd
    have ly : ys.length = es.length := by rw [hp1.length_eq, List.length_map]
    have p2p : p2 ≠ p := by rintro rfl; simp at hp2'
    have hp2h : h p2 = none := by rw [up_ne p2p] at hp2'; exact hp2'
    refine dc_pure (pick0 (getI es)) (fun _ => trivial) (by rw [List.length_map]; omega) ?_ ?_
    · intro x acc K hx la k
      obtain ⟨y, hy, rfl⟩ := List.mem_map.mp hx
      have my : y ∈ es.map (·.1) := hp1.mem_iff.mp hy
      rw [u_gN]
      simp only [u_asg, u_gN, u_ret, u_retN, u_skip, u_expr, u_ifs, u_c, u_op, u_neg, u_test, u_and, u_or, u_not, u_if, u_nil, u_cons, u_tup, u_lst, u_callP, u_call, u_b, u_chain, u_andV, u_addI, u_subI, u_mulI, u_divI, u_modI, u_powI, u_cmpI, u_eqI, u_eqS, u_eqB, u_abs, u_intI, u_intB, u_newT, u_newF, u_isN, u_notN, wVar, List.set_cons_zero, List.set_cons_succ, List.getElem?_cons_zero, List.getElem?_cons_succ, List.length_cons, List.length_nil, u_lc, u_for, u_r1, u_r2, u_r3, u_num, u_notV, u_yes, u_w0, u_w1, u_dget]
      have gp : (up (up h p (.dK (toK es))) p2 (.dK acc)) p = some (.dK (toK es)) := by rw [up_ne p2p.symm]; exact up_same
      refine ⟨toK es, _, _, dk_ref gp, rfl, val_some my, ?_⟩
      rw [u_eqI]
      by_cases z : getI es y = 0
      · rw [decide_eq_true z]
        simp only [Bool.not_true, Bool.false_eq_true, if_false]
        have : dstep (pick0 (getI es)) acc (.int y) = acc := by unfold dstep pick0; simp only [z, ne_eq, not_true, if_false]
        rw [this] at k; exact k
      · rw [decide_eq_false z]
        simp only [Bool.not_false, if_true]
        refine ⟨toK es, _, _, dk_ref gp, rfl, val_some my, acc, _, rfl, up_same, la, ?_⟩
        rw [up_up]
        have : dstep (pick0 (getI es)) acc (.int y) = putD acc (Sum.inl y) (.int (getI es y)) := by unfold dstep pick0; simp only [ne_eq, z, not_false_eq_true, if_true]
        rw [this] at k; exact k
    · have e := fold_keyed (getI es) ys [] ndy (fun _ _ => rfl)
      have e : (ys.map D.int).foldl (dstep (pick0 (getI es))) [] = toK (keyed (getI es) ys) := e
      rw [e]
      refine endKF hp2' ?_
      refine ⟨a, [], rfl, by rw [up_ne pa]; exact ha, by decide, ?_⟩
      have led : Led (keyed (getI es) ys) (amt rows) := by
        have := keyed_led (A := getI es) hp2 ndy fun k hk => hp1.mem_iff.mpr (by
          cases c : hasI es k with
          | true => exact hasI_keys.mp c
          | false => exact absurd (getI_no c) hk)
        exact this.of_amt hg
      refine fin_sub (g := up h a (.ins C [("amounts", .dK (toK (keyed (getI es) ys)))])) (fun b o z => ?_) (q _ led (by have := keyed_len (A := getI es) (ys := ys); omega))
      by_cases c : b = a
      · subst c; rw [up_same] at z ⊢; exact z
      · rw [up_ne c] at z ⊢
        rw [up_ne (by rintro rfl; rw [hp] at z; cases z)]; exact z
theorem len_init (C : Addr) : ∀ ds h Q X, S_init C ds h Q X → ds.length = 2 := fun _ _ _ _ ⟨_, _, e, _⟩ => by rw [e]; rfl
theorem mo_init (C : Addr) : MoF (S_init C) := fun _ _ _ _ _ _ hq _ ⟨a, b, e, o1, o2, o3, q⟩ => ⟨a, b, e, o1, o2, o3, fun es h1 h2 => hq _ _ (q es h1 h2)⟩
def S_rows (C : Addr) : FSpec := fun ds h Q _ => ∃ es : Prs, ds = [ledD C es] ∧ Q (.tup (es.map pairD)) h
def wr_rows (C : Addr) : WS := (wRet (wTupIt (wFld C "amounts" (wVar 0))))
theorem pr_rows (C : Addr) : ∀ ds h Q X, S_rows C ds h Q X → wr_rows C (endsD Q X) (startD 1 ds) h := by
  rintro ds h Q X ⟨es, rfl, q⟩
  show wr_rows C (endsD Q X) [some (ledD C es)] h
  simp only [wr_rows, u_asg, u_gN, u_ret, u_retN, u_skip, u_expr, u_ifs, u_c, u_op, u_neg, u_test, u_and, u_or, u_not, u_if, u_nil, u_cons, u_tup, u_lst, u_callP, u_call, u_b, u_chain, u_andV, u_addI, u_subI, u_mulI, u_divI, u_modI, u_powI, u_cmpI, u_eqI, u_eqS, u_eqB, u_abs, u_intI, u_intB, u_newT, u_newF, u_isN, u_notN, wVar, List.set_cons_zero, List.set_cons_succ, List.getElem?_cons_zero, List.getElem?_cons_succ, List.length_cons, List.length_nil, u_lc, u_for, u_r1, u_r2, u_r3, u_num, u_notV, u_yes, u_w0, u_w1, u_tupIt, u_fld]
  refine ⟨_, _, rfl, rfl, _, rfl, ?_⟩
  rw [toK_kv]
  exact fin_of q
theorem len_rows (C : Addr) : ∀ ds h Q X, S_rows C ds h Q X → ds.length = 1 := fun _ _ _ _ ⟨_, e, _⟩ => by rw [e]; rfl
theorem mo_rows (C : Addr) : MoF (S_rows C) := fun _ _ _ _ _ _ hq _ ⟨a, e, q⟩ => ⟨a, e, hq _ _ q⟩
/-- a call C(*rows) or C(row, ..) -/
theorem make_led {C a : Addr} {rows : Prs} {h : AH} {P : KD} {X : KX} {ds : List D} (hd : ds = rows.map pairD) (ha : h a = none) (hr : InR rows) (hl : rows.length ≤ 10000) (q : ∀ es, Led es (amt rows) → InR es → es.length ≤ rows.length → P .non (up h a (.ins C [("amounts", .dK (toK es))]))) :
    starS 1 (S_init C) (.ref a :: ds) (up h a (.ins C [])) P X := by
  subst hd
  have big := big_size
  refine ⟨by simp, by simp; omega, a, rows, rfl, up_same, hr, hl, fun es h1 h2 => ?_⟩
  rw [up_up]
  exact q es h1 (h1.inR hr) h2
theorem made {C a : Addr} {fs : List (Str × D)} {h : AH} {R : List (Str × D) → AH → Prop} (ha : h a = none) (q : R fs h) : (D.non = .non ∧ ∃ gs, (up h a (.ins C fs)) a = some (.ins C gs) ∧ R gs (rm (up h a (.ins C fs)) a)) :=
  ⟨rfl, fs, up_same, by rw [rm_up, rm_none ha]; exact q⟩
def S_add (C : Addr) : FSpec := fun ds h Q _ => ∃ es fs : Prs, ds = [ledD C es, ledD C fs] ∧ InR es ∧ InR fs ∧ es.length + fs.length ≤ 10000 ∧ ∀ gs, Led gs (fun k => amt es k + amt fs k) → InR gs → gs.length ≤ es.length + fs.length → Q (ledD C gs) h
def wr_add (C : Addr) : WS := (wSeq (wAsg (wOp (dAdd false) (wProp C (S_rows C) (wVar 0)) (wProp C (S_rows C) (wVar 1))) (gN 2))
  (wRet (wMakeS C (starS 1 (S_init C)) (wVar 2))))
theorem pr_add (C : Addr) : ∀ ds h Q X, S_add C ds h Q X → wr_add C (endsD Q X) (startD 3 ds) h := by
  rintro ds h Q X ⟨es, fs, rfl, he, hf, hl, q⟩
  show wr_add C (endsD Q X) [some (ledD C es), some (ledD C fs), none] h
  have big := big_size
  unfold wr_add
  rw [u_seq]
  simp only [u_asg, u_gN, u_ret, u_retN, u_skip, u_expr, u_ifs, u_c, u_op, u_neg, u_test, u_and, u_or, u_not, u_if, u_nil, u_cons, u_tup, u_lst, u_callP, u_call, u_b, u_chain, u_andV, u_addI, u_subI, u_mulI, u_divI, u_modI, u_powI, u_cmpI, u_eqI, u_eqS, u_eqB, u_abs, u_intI, u_intB, u_newT, u_newF, u_isN, u_notN, wVar, List.set_cons_zero, List.set_cons_succ, List.getElem?_cons_zero, List.getElem?_cons_succ, List.length_cons, List.length_nil, u_lc, u_for, u_r1, u_r2, u_r3, u_num, u_notV, u_yes, u_w0, u_w1, u_prop, u_makeS]
  refine ⟨ledD_isI, es, rfl, ledD_isI, fs, rfl, ?_⟩
  refine ⟨by simp; omega, ?_⟩
  simp only [u_asg, u_gN, u_ret, u_retN, u_skip, u_expr, u_ifs, u_c, u_op, u_neg, u_test, u_and, u_or, u_not, u_if, u_nil, u_cons, u_tup, u_lst, u_callP, u_call, u_b, u_chain, u_andV, u_addI, u_subI, u_mulI, u_divI, u_modI, u_powI, u_cmpI, u_eqI, u_eqS, u_eqB, u_abs, u_intI, u_intB, u_newT, u_newF, u_isN, u_notN, wVar, List.set_cons_zero, List.set_cons_succ, List.getElem?_cons_zero, List.getElem?_cons_succ, List.length_cons, List.length_nil, u_lc, u_for, u_r1, u_r2, u_r3, u_num, u_notV, u_yes, u_w0, u_w1, u_makeS]
  refine ⟨_, rfl, fun a ha => ?_⟩
  refine make_led (rows := es ++ fs) (by rw [List.map_append]) ha (he.append hf) (by rw [List.length_append]; exact hl) fun gs h1 h2 h3 => ⟨rfl, _, up_same, ?_⟩
  rw [rm_up, rm_none ha]
  exact fin_of (q gs (h1.of_amt fun k => amt_append) h2 (by rw [List.length_append] at h3; exact h3))
theorem len_add (C : Addr) : ∀ ds h Q X, S_add C ds h Q X → ds.length = 2 := fun _ _ _ _ ⟨_, _, e, _⟩ => by rw [e]; rfl
theorem mo_add (C : Addr) : MoF (S_add C) := fun _ _ _ _ _ _ hq _ ⟨a, b, e, o1, o2, o3, q⟩ => ⟨a, b, e, o1, o2, o3, fun es h1 h2 h3 => hq _ _ (q es h1 h2 h3)⟩
/-! ### the laws' own way to a ledger -/
/-- a tuple, its object known or not -/
def IsT (d : D) (xs : List D) : Prop := d = .tup xs ∨ d = .tpl xs
theorem IsT.iter {d : D} {xs : List D} (t : IsT d xs) {ρ : EnvD} {h : AH} {X : KX} {i : Nat} {R : List D → (AH → Prop) → AH → Prop} (e : ρ[i]? = some (some d)) (k : R xs (fun _ => True) h) : iTupD (wVar i) ρ h R X := by
  rw [u_tupi, u_var e]
  rcases t with rfl | rfl
  · exact k
  · exact k
end DL
namespace DL
open PySem PySem.Spec L2 C8 PyProof.Rows
/-! ### tuple * int, up to 16,000,000 items -/
end DL
namespace DL
open PySem PySem.Spec L2 C8
/-! ### needs -/
/-! ### the defs -/
def S_getit (C : Addr) : FSpec := fun ds h Q _ => ∃ (es : Prs) (k : Int), ds = [ledD C es, .int k] ∧ Q (.int (getI es k)) h
def wr_getit (C : Addr) : WS := (wRet (wGet2 (wFld C "amounts" (wVar 0)) (wVar 1) (wC (.int 0))))
theorem pr_getit (C : Addr) : ∀ ds h Q X, S_getit C ds h Q X → wr_getit C (endsD Q X) (startD 2 ds) h := by
  rintro ds h Q X ⟨es, k, rfl, q⟩
  show wr_getit C (endsD Q X) [some (ledD C es), some (.int k)] h
  simp only [wr_getit, u_asg, u_gN, u_ret, u_retN, u_skip, u_expr, u_ifs, u_c, u_op, u_neg, u_test, u_and, u_or, u_not, u_if, u_nil, u_cons, u_tup, u_lst, u_callP, u_call, u_b, u_chain, u_andV, u_addI, u_subI, u_mulI, u_divI, u_modI, u_powI, u_cmpI, u_eqI, u_eqS, u_eqB, u_abs, u_intI, u_intB, u_newT, u_newF, u_isN, u_notN, wVar, List.set_cons_zero, List.set_cons_succ, List.getElem?_cons_zero, List.getElem?_cons_succ, List.length_cons, List.length_nil, u_lc, u_for, u_r1, u_r2, u_r3, u_num, u_notV, u_yes, u_w0, u_w1, u_dput, u_get2, u_dget, u_prop, u_fld, u_setF, u_make, u_makeS, u_met, u_calO, u_orT, u_tupIt, u_dc, u_maxDd, u_dnew, u_tupi, ix_p0, ix_p1, wSl, woNone, woSome]
  refine ⟨_, _, rfl, rfl, rfl, _, _, rfl, rfl, ?_⟩
  rw [val_getD]
  exact fin_of q
theorem len_getit (C : Addr) : ∀ ds h Q X, S_getit C ds h Q X → ds.length = 2 := fun _ _ _ _ ⟨_, _, e, _⟩ => by rw [e]; rfl
theorem mo_getit (C : Addr) : MoF (S_getit C) := fun _ _ _ _ _ _ hq _ ⟨a, b, e, q⟩ => ⟨a, b, e, hq _ _ q⟩
def S_grt (C : Addr) : FSpec := fun ds h Q _ => ∃ es : Prs, ds = [ledD C es] ∧ (es = [] → Q .non h) ∧ ∀ m, m ∈ es.map (·.1) → (∀ y ∈ es.map (·.1), y ≤ m) → Q (.int m) h
def wr_grt (C : Addr) : WS := (wRet (wMaxDd (wCons (wFld C "amounts" (wVar 0)) wNil) (wCons (wC .non) wNil)))
theorem pr_grt (C : Addr) : ∀ ds h Q X, S_grt C ds h Q X → wr_grt C (endsD Q X) (startD 1 ds) h := by
  rintro ds h Q X ⟨es, rfl, q0, q1⟩
  show wr_grt C (endsD Q X) [some (ledD C es)] h
  simp only [wr_grt, u_asg, u_gN, u_ret, u_retN, u_skip, u_expr, u_ifs, u_c, u_op, u_neg, u_test, u_and, u_or, u_not, u_if, u_nil, u_cons, u_tup, u_lst, u_callP, u_call, u_b, u_chain, u_andV, u_addI, u_subI, u_mulI, u_divI, u_modI, u_powI, u_cmpI, u_eqI, u_eqS, u_eqB, u_abs, u_intI, u_intB, u_newT, u_newF, u_isN, u_notN, wVar, List.set_cons_zero, List.set_cons_succ, List.getElem?_cons_zero, List.getElem?_cons_succ, List.length_cons, List.length_nil, u_lc, u_for, u_r1, u_r2, u_r3, u_num, u_notV, u_yes, u_w0, u_w1, u_dput, u_get2, u_dget, u_prop, u_fld, u_setF, u_make, u_makeS, u_met, u_calO, u_orT, u_tupIt, u_dc, u_maxDd, u_dnew, u_tupi, ix_p0, ix_p1, wSl, woNone, woSome]
  refine ⟨_, _, rfl, rfl, _, _, _, es.map (·.1), rfl, rfl, rfl, toK_keys es, fun e => fin_of (q0 (List.map_eq_nil_iff.mp e)), fun m h1 h2 => fin_of (q1 m h1 h2)⟩
theorem len_grt (C : Addr) : ∀ ds h Q X, S_grt C ds h Q X → ds.length = 1 := fun _ _ _ _ ⟨_, e, _⟩ => by rw [e]; rfl
theorem mo_grt (C : Addr) : MoF (S_grt C) := fun _ _ _ _ _ _ hq _ ⟨a, e, q0, q1⟩ => ⟨a, e, fun z => hq _ _ (q0 z), fun m h1 h2 => hq _ _ (q1 m h1 h2)⟩
/-! ### the laws' own needs -/
theorem merge_nodup : ∀ {es acc : Prs}, (es.map (·.1)).Nodup → (∀ e ∈ es, hasI acc e.1 = false) → (toK es).foldl (fun a e => putD a e.1 e.2) (toK acc) = toK (acc ++ es)
  | [], acc, _, _ => by simp [toK]
  | e :: es, acc, nd, hn => by
    rw [List.map_cons, List.nodup_cons] at nd
    have e1 : toK (e :: es) = (Sum.inl e.1, D.int e.2) :: toK es := rfl
    rw [e1, List.foldl_cons]
    show (toK es).foldl _ (putD (toK acc) (Sum.inl e.1) (.int e.2)) = _
    rw [putD_toK, put_new (hn e (List.mem_cons_self ..)), merge_nodup nd.2 (fun f hf => ?_)]
    · simp
    · have h1 := hn f (List.mem_cons_of_mem _ hf)
      have h2 : e.1 ≠ f.1 := fun z => nd.1 (by rw [z]; exact List.mem_map.mpr ⟨f, hf, rfl⟩)
      show (acc ++ [(e.1, e.2)]).any _ = false
      rw [List.any_append]
      have h1 : acc.any (fun x => decide (x.1 = f.1)) = false := h1
      rw [h1]
      simp [h2]
theorem mergeD_toK {es : Prs} (nd : (es.map (·.1)).Nodup) : mergeD (toK es) = toK es := by
  have := merge_nodup (acc := []) nd (fun _ _ => rfl)
  exact this
theorem dict_of {es : Prs} {h : AH} {Q : KD} (nd : (es.map (·.1)).Nodup) (q : ∀ p, h p = none → Q (.ref p) (up h p (.dK (toK es)))) : dDictP true [.tpl (es.map pairD)] h Q := by
  refine ⟨toK es, ?_, ?_⟩
  · unfold toK; rw [List.map_map]; rfl
  · rw [if_pos rfl, mergeD_toK nd]; exact q
/-! ### bounds -/
end DL
namespace DL
open PySem PySem.Spec L2 C8 PyProof.Rows
/-! ### the truth of an instance, by its __len__ -/
section
variable {prog : Program} {w : World} {A : Around} {E : Value → Shared → Prop} {s : Shared} {K : PySem.W.Frag} {x C f : Addr} {ox : Obj} {odd : Option Obj}
theorem len_own {Q : Value → Shared → Prop} (X : K.In s.heap) (I : PySem.W.InstAt s.heap x ox C odd) (hs : PySem.W.findIn K (.ref C) "__len__" = some (some (.ref f))) (hf : PySem.W.isFn K (.ref f) = true)
    (h : wpAny (model prog w) A (call (.ref f) [.ref x]) (fun r s1 => ∃ (n : Nat) (t : Tok), r = Value.int n t ∧ n < 2 ^ 62 ∧ ∀ t tk, Q (.int n t) { s1 with toks := tk }) E s) :
    wpAny (model prog w) A (Builtin.«len» ⟨[.ref x], []⟩) (fun fin s' => ∃ r, fin = .done (.ret r) ∧ Q r s') E s := by
  unfold Builtin.«len»
  refine wpAny_bind (m := oneArg "len" _) (wpAny_pure ?_)
  refine wpAny_bind (m := callSpecial? (.ref x) (Str.ofString "__len__")) (PySem.W.special_fn X I hs (beq_iff_eq.mp hf) (wpAny_mono h (fun r s' hr => ?_) fun _ _ y => y))
  obtain ⟨n, u, rfl, hn, hq⟩ := hr
  refine wpAny_bind (wpAny_holding (wpAny_pure ?_))
  refine wpAny_bind (wpAny_letGo ?_)
  show wpAny _ _ (if ((n : Nat) : Int) < 0 then _ else _) _ _ _
  rw [if_neg (by omega)]
  show wpAny _ _ (if ((n : Nat) : Int) ≥ 2 ^ 63 then _ else _) _ _ _
  rw [if_neg (by omega)]
  exact wpAny_bind (wpAny_mkInt (wpAny_pure ⟨_, rfl, hq _ _⟩))
theorem tru_own {Q : Bool → Shared → Prop} (X : K.In s.heap) (I : PySem.W.InstAt s.heap x ox C odd) (hb : PySem.W.findIn K (.ref C) "__bool__" = some none) (hs : PySem.W.findIn K (.ref C) "__len__" = some (some (.ref f))) (hf : PySem.W.isFn K (.ref f) = true)
    (h : wpAny (model prog w) A.in1 (call (.ref f) [.ref x]) (fun r s1 => ∃ (n : Nat) (t : Tok), r = Value.int n t ∧ n < 2 ^ 62 ∧ ∀ tk, Q (decide (n ≠ 0)) { s1 with toks := tk }) E s) :
    wpAny (model prog w) A (truthy (.ref x)) Q E s := by
  have key : wpAny (model prog w) A (runValue (.builtin "len" ⟨[.ref x], []⟩)) (fun r s' => ∃ (n : Nat) (t : Tok), r = Value.int n t ∧ Q (decide (n ≠ 0)) s') E s := by
    refine wpAny_runValue (codeAny_builtin PySem.entry_len ?_)
    rw [Around.under_plainId PySem.plain_len _]
    refine wpAny_mono (len_own (Q := fun r s' => ∃ (n : Nat) (t : Tok), r = Value.int n t ∧ Q (decide (n ≠ 0)) s') X I hs hf (wpAny_mono h (fun r s1 hr => ?_) fun _ _ y => y)) (fun fin s' h' => by obtain ⟨r, rfl, hq⟩ := h'; exact hq) fun _ _ e => e
    obtain ⟨n, t, rfl, hn, hq⟩ := hr
    exact ⟨n, t, rfl, hn, fun t tk => ⟨n, t, rfl, hq tk⟩⟩
  have hsp : ∀ {Q' : Option Value → Shared → Prop}, Q' (some (.ref f)) s → wpAny (model prog w) A (specialOf (.ref x) "__len__") Q' E s := fun q => by
    unfold specialOf
    exact wpAny_bind (I.type.here ((PySem.W.looks_findIn X hs).here q))
  have fin : ∀ (n : Nat) (t : Tok) s', Q (decide (n ≠ 0)) s' → Q ((n : Int) != 0) s' := fun n t s' q => by
    have e : ((n : Int) != 0) = decide (n ≠ 0) := by
      by_cases c : n = 0
      · subst c; rfl
      · rw [decide_eq_true c]; simp; omega
    rw [e]; exact q
  unfold truthy
  first
    | refine wpAny_bind (DSub.special_no (name := Str.ofString "__bool__") X I hb ?_)
    | refine wpAny_bind (wpAny_pure (wpAny_bind (DSub.special_no (name := Str.ofString "__bool__") X I hb ?_)))
  first
    | refine wpAny_bind (hsp ?_)
    | refine wpAny_bind (wpAny_pure (wpAny_bind (hsp ?_)))
  first
    | exact wpAny_bind (wpAny_mono key (fun r s' h' => by obtain ⟨n, t, rfl, hq⟩ := h'; exact wpAny_pure (fin n t _ hq)) fun _ _ e => e)
    | exact wpAny_bind (wpAny_pure (wpAny_bind (wpAny_mono key (fun r s' h' => by obtain ⟨n, t, rfl, hq⟩ := h'; exact wpAny_pure (fin n t _ hq)) fun _ _ e => e)))
end
section
variable (P : Program) (w : World) (K : PySem.W.Frag) (mg : Str → Option Value) (base : Heap)
structure LenC (C : Addr) (k : Nat) (S : FSpec) : Prop where
  ex : ∃ g, PySem.W.findIn K (.ref C) "__bool__" = some none ∧ PySem.W.findIn K (.ref C) "__len__" = some (some (.ref g)) ∧ PySem.W.isFn K (.ref g) = true ∧ FnRD P w K mg base k g S
  mo : MoF S
end
end DL
namespace PL
open PySem PySem.Spec L2 C8 DL PK
/-! ### ledgers of programs, and their lengths -/
abbrev S_is_row (z : Ad) : FSpec := S_isRow
abbrev S_Ledger___init__ (z : Ad) : FSpec := S_init z.Ledger
abbrev S_Ledger_rows (z : Ad) : FSpec := S_rows z.Ledger
abbrev S_Ledger_greatest (z : Ad) : FSpec := S_grt z.Ledger
abbrev S_Ledger___getitem__ (z : Ad) : FSpec := S_getit z.Ledger
def S_Ledger___len__ (z : Ad) : FSpec := fun ds h Q _ => ∃ es : Prs, ds = [ledD z.Ledger es] ∧ Q (.int ((es.length : Nat) : Int)) h
abbrev S_Ledger___add__ (z : Ad) : FSpec := S_add z.Ledger
/-- the capacity from which on nothing changes -/
def tailI (gs : Prs) : Int := match gs.getLast? with
  | some e => e.1 + 1
  | none => 1
end PL
namespace DL
open PySem PySem.Spec L2
/-! ### for k in d, d locked by the walk itself -/
end DL
namespace DL
open PySem PySem.Spec L2 C8
/-! ### dicts that are walked: locked from then on -/
def dkR (h : AH) : D → Option (List (Key × D))
  | .dK xs => some xs
  | .ref a => match h a with
    | some (.dK xs) => some xs
    | some (.lckK _ xs) => some xs
    | _ => none
  | _ => none
section
variable {K : PySem.W.Frag} {F : Hp} {h : AH} {H : Hp} {d : D} {v : V}
theorem Sim.dkR {kvs : List (Key × D)} (S : Sim K F h H) (r : Rep K F d v) (e : DL.dkR h d = some kvs) : ∃ a vs, v = .ref a ∧ Rd H a (.dK vs) ∧ RepK K F kvs vs := by
  cases d with
  | dK xs =>
    obtain ⟨a, vs, e1, e2, e3⟩ := S.dkOf r (show DL.dkOf h (.dK xs) = some kvs from e)
    exact ⟨a, vs, e1, .inl e2, e3⟩
  | ref a =>
    cases q : h a with
    | none => simp [DL.dkR, q] at e
    | some o =>
      cases o with
      | dK xs =>
        obtain ⟨a', vs, e1, e2, e3⟩ := S.dkOf r (show DL.dkOf h (.ref a) = some kvs from by simpa [DL.dkR, DL.dkOf, q] using e)
        exact ⟨a', vs, e1, .inl e2, e3⟩
      | lckK ob xs =>
        have : xs = kvs := by simpa [DL.dkR, q] using e
        subst this
        cases r
        obtain ⟨_, u, hu, vs, rfl, rs⟩ := S.ob _ _ q
        exact ⟨a, vs, rfl, .inr ⟨ob, hu⟩, rs⟩
      | _ => simp [DL.dkR, q] at e
  | _ => cases e
end
end DL
namespace DL
open PySem PySem.Spec L2 C8
/-! ### dicts of ints compared; more of a class, bundled -/
/-- what a look at each key of the one in the other gives -/
inductive HitD (ls : List (Key × D)) : List (Key × D) → Bool → Prop
  | nil : HitD ls [] true
  | miss {k : Key} {d : D} {r : List (Key × D)} (h : valD ls k = none) : HitD ls ((k, d) :: r) false
  | hit {k : Key} {i j : Int} {r : List (Key × D)} {b : Bool} (h : valD ls k = some (.int j)) (t : HitD ls r b) : HitD ls ((k, .int i) :: r) (decide (i = j) && b)
inductive HitV (ls : List (Key × V)) : List (Key × V) → Bool → Prop
  | nil : HitV ls [] true
  | miss {k : Key} {d : V} {r : List (Key × V)} (h : valV ls k = none) : HitV ls ((k, d) :: r) false
  | hit {k : Key} {i j : Int} {r : List (Key × V)} {b : Bool} (h : valV ls k = some (.int j)) (t : HitV ls r b) : HitV ls ((k, .int i) :: r) (decide (i = j) && b)
theorem HitD.to {K : PySem.W.Frag} {F : Hp} {ls : List (Key × D)} {ms : List (Key × V)} (rl : RepK K F ls ms) : ∀ {ks : List (Key × D)} {b : Bool}, HitD ls ks b → ∀ {vs : List (Key × V)}, RepK K F ks vs → HitV ms vs b
  | _, _, .nil, _, .nil => .nil
  | _, _, .miss h, _, .cons r t => .miss (by
      rcases rl.val _ with ⟨_, e⟩ | ⟨d, v, e, _, _⟩
      · exact e
      · rw [h] at e; cases e)
  | _, _, .hit h u, _, .cons r t => by
      cases r
      refine .hit ?_ (HitD.to rl u t)
      rcases rl.val _ with ⟨e, _⟩ | ⟨d, v, e, e2, rr⟩
      · rw [h] at e; cases e
      · rw [h] at e; cases e; cases rr; exact e2
theorem HitV.run {A : Around} {s : Shared} {ms : List (Key × V)} {vb : List (Key × Value)} (rb : KV ms vb) : ∀ {vs : List (Key × V)} {b : Bool}, HitV ms vs b → ∀ {va : List (Key × Value)}, KV vs va → PySem.W.KeqHits A s vb va b := by
  intro vs b h
  induction h with
  | nil => intro va ra; unfold KV at ra; cases ra; exact .nil
  | @miss k d r h =>
    intro va ra
    unfold KV at ra
    cases ra with
    | @cons _ q _ qs h1 t =>
      obtain ⟨h1, h2⟩ := h1
      obtain ⟨k', v⟩ := q
      cases (show k = k' from h1)
      refine .miss ?_
      have rr := rb.val k
      rw [h] at rr
      cases e : valueAt vb k with
      | none => rfl
      | some y => rw [e] at rr; exact rr.elim
  | @hit k i j r b h _ ih =>
    intro va ra
    unfold KV at ra
    cases ra with
    | @cons _ q _ qs h1 t =>
      obtain ⟨h1, h2⟩ := h1
      obtain ⟨k', v⟩ := q
      cases (show k = k' from h1)
      obtain ⟨t1, rfl⟩ := (show ∃ t, v = .int i t from h2)
      have rr : RelO (some (.int j)) (valueAt vb k) := by rw [← h]; exact rb.val k
      obtain ⟨y, hy, ry⟩ := rr.some_of
      obtain ⟨t2, rfl⟩ := (show ∃ t, y = .int j t from ry)
      have e := SeqAt.EqAt.int_int (A := A) (s := s) i t1 j t2
      rw [show (i == j) = decide (i = j) from rfl] at e
      exact .hit hy e (ih t)
section
variable {X : Cx} {E : XK} {gz : Bool} {k : Nat} {a b : Expr} {wa wb : WE} {pos : Pos}
def rEqK (f : Bool → Bool) : R2 := fun x y H Q => ∃ a b ks ls r, x = .ref a ∧ y = .ref b ∧ Rd H a (.dK ks) ∧ Rd H b (.dK ls) ∧ HitV ls ks r ∧ Q (.bl (f (ks.length == ls.length && r))) H
theorem op_eqK (hu : X.A.units < cLine) : OpR X (compareOp .Eq) (rEqK fun b => b) := by
  intro pins s σ H x y v u Q I rx ry h
  obtain ⟨a, b, ks, ls, r, rfl, rfl, ea, eb, hp, q⟩ := h
  obtain rfl : v = Value.ref a := rx
  obtain rfl : u = Value.ref b := ry
  obtain ⟨_, ya, va, ra, da⟩ := (show ObjOk X.prog X.w H s.heap a (.dK ks) from rd_of I.hok ea)
  obtain ⟨_, yb, vb, rb, db⟩ := (show ObjOk X.prog X.w H s.heap b (.dK ls) from rd_of I.hok eb)
  refine PySem.W.keq_eq (knd := mixKind X.prog X.w) (r := r) ya yb da db hu (fun _ => hp.run rb ra) (fin_bl I q (by rw [ra.length, rb.length]))
def dEqK (f : Bool → Bool) (x y : D) (h : AH) (Q : KD) : Prop := ∃ ks ls r, dkR h x = some ks ∧ dkR h y = some ls ∧ HitD ls ks r ∧ Q (.bl (f (ks.length == ls.length && r))) h
theorem dEqK_ok {K : PySem.W.Frag} {f : Bool → Bool} : OpD K (rEqK f) (dEqK f) where
  to := by
    rintro F h H x y vx vy Q S0 rx ry ⟨ks, ls, r, e1, e2, hh, q⟩
    obtain ⟨a, vs, rfl, ha, r1⟩ := S0.dkR rx e1
    obtain ⟨b, ws, rfl, hb, r2⟩ := S0.dkR ry e2
    refine ⟨a, b, vs, ws, r, rfl, rfl, ha, hb, hh.to r2 r1, ?_⟩
    rw [← r1.length, ← r2.length]
    exact q.at S0 (.bl _)
  mo := fun hq ⟨ks, ls, r, a, b, c, q⟩ => ⟨ks, ls, r, a, b, c, hq _ _ q⟩
theorem ae_eqK (c : Cg gz X E k) (ha : AE X E a wa) (hb : AE X E b wb) : AE X E (.Compare a [.Eq] [b] pos) (wOp (dEqK fun b => b) wa wb) := ae_cmp dEqK_ok (op_eqK (by have := c.room.units; omega)) ha hb
end
end DL
namespace DL
open PySem PySem.Spec L2 C8 PyProof.Rows
/-! ### len(x) of an instance, by its __len__ -/
section
variable {X : Cx} {E : XK} {gz : Bool} {k j : Nat} {C : Addr} {S : FSpec}
def dLenO (C : Addr) (S : FSpec) (ds : List D) (h : AH) (Q : KD) : Prop := ∃ x, ds = [x] ∧ isI C x h ∧ S [x] h (fun d h2 => ∃ n : Nat, d = .int (n : Nat) ∧ n < 2 ^ 62 ∧ Q (.int (n : Nat)) h2) (fun _ _ => False)
theorem dLenO_ok (c : Cg gz X E k) (R : LenC X.prog X.w X.K X.mg X.base C j S) (hj : j + 1 ≤ k) : CaD X (.builtin "len") (dLenO C S) where
  ex := by
    obtain ⟨g, hb, hs, hf, G⟩ := R.ex
    refine ⟨fun vs H Q => ∃ a dx ws, vs = [V.ref a] ∧ H a = some (.ins C dx ws) ∧ spD X.K S [V.ref a] H (fun z H2 => ∃ n : Nat, z = .int (n : Nat) ∧ n < 2 ^ 62 ∧ Q (.int (n : Nat)) H2) L2.E0, ?_, ?_⟩
    · intro pins s σ H xs us Q I r h
      obtain ⟨a, dx, ws, rfl, hi, q1⟩ := h
      obtain ⟨u, rfl, ru⟩ := vals1 r
      obtain rfl : u = Value.ref a := ru
      obtain ⟨mA, J, _⟩ := ins_get I.hok hi
      obtain ⟨od, J, _⟩ := J.look
      refine Calls.call_function_entry kind_len plain_len entry_len (args_len1 _) ?_
      refine len_own I.kIn J hs hf (wpAny_mono (wpAny_call (SlX.run_at (us := [.ref a]) (ws := [.ref a]) G (Room.in1 (c.room.mono hj)) I.env0.in1 pass_no I (.cons rfl .nil) q1)) (fun w s' z => ?_) fun _ _ x => x)
      obtain ⟨z', H', I', rz, n, ei, hn, qz⟩ := z
      subst ei
      obtain ⟨t, e⟩ := (show ∃ t, w = Value.int n t from rz)
      cases e
      exact ⟨n, t, rfl, hn, fun t tk => ⟨.int (n : Nat), H', I'.tok _, ⟨_, rfl⟩, qz⟩⟩
    · rintro F h H ds vs Q S0 r ⟨x, rfl, ⟨fs, ei⟩, z⟩
      obtain ⟨v, rfl, r1⟩ := r.one
      obtain ⟨a, dx, ws, rfl, hi, _⟩ := S0.insOf r1 ei
      refine ⟨a, dx, ws, rfl, hi, F, _, h, S0, .cons r1 .nil, R.mo _ _ _ _ _ _ (fun d h2 z => ?_) (fun _ _ z => z.elim) z⟩
      obtain ⟨n, rfl, hn, z⟩ := z
      intro F2 H2 v e2 S2 rv
      cases rv
      exact ⟨n, rfl, hn, z F2 H2 _ e2 S2 (.int _)⟩
  mo := fun hq ⟨x, e, i, z⟩ => ⟨x, e, i, R.mo _ _ _ _ _ _ (fun d h2 ⟨n, e, l, z⟩ => ⟨n, e, l, hq _ _ z⟩) (fun _ _ z => z) z⟩
theorem u_lenO {x : D} {h : AH} {Q : KD} : dLenO C S [x] h Q = (isI C x h ∧ S [x] h (fun d h2 => ∃ n : Nat, d = .int (n : Nat) ∧ n < 2 ^ 62 ∧ Q (.int (n : Nat)) h2) (fun _ _ => False)) := by
  unfold dLenO
  refine propext ⟨?_, fun q => ⟨x, rfl, q⟩⟩
  rintro ⟨y, e, q⟩
  cases e; exact q
end
end DL
namespace DL
open PySem PySem.Spec L2 C8
/-! ### dict([..pairs..]), dict(d) -/
end DL
namespace DL
open PySem PySem.Spec L2 C8 PyProof.Rows
end DL
namespace PQ
open PySem PySem.Spec L2 C8 DL PK PL
/-! ### ledgers taken off one another; the least capacity -/
def S_Ledger___mul__ (z : Ad) : FSpec := fun ds h Q _ => ∃ (es : Prs) (n : Int), ds = [ledD z.Ledger es, .int n] ∧ InR es ∧ es.length ≤ 10000 ∧ -(2 ^ 64) < n ∧ n < 2 ^ 64 ∧
  ∀ gs, Led gs (fun k => amt es k * n) → InR gs → gs.length ≤ es.length → Q (ledD z.Ledger gs) h
def S_Ledger___neg__ (z : Ad) : FSpec := fun ds h Q _ => ∃ es : Prs, ds = [ledD z.Ledger es] ∧ InR es ∧ es.length ≤ 10000 ∧
  ∀ gs, Led gs (fun k => -amt es k) → InR gs → gs.length ≤ es.length → Q (ledD z.Ledger gs) h
def S_Ledger___sub__ (z : Ad) : FSpec := fun ds h Q _ => ∃ es fs : Prs, ds = [ledD z.Ledger es, ledD z.Ledger fs] ∧ InR es ∧ InR fs ∧ es.length + fs.length ≤ 10000 ∧
  ∀ gs, Led gs (fun k => amt es k - amt fs k) → InR gs → gs.length ≤ es.length + fs.length → Q (ledD z.Ledger gs) h
/-- how much more the one prints than the other -/
def gapL (w v : Int) (gs fs : Prs) (c : Int) : Int := w - v + (lenAt gs c - lenAt fs c)
/-- the least capacity at which they part -/
def IsLeast (w v : Int) (gs fs : Prs) (d : D) : Prop := (w = v ∧ gs = fs ∧ d = .non) ∨
  ∃ c : Nat, 1 ≤ c ∧ c ≤ 1000001 ∧ d = .int (c : Nat) ∧ gapL w v gs fs c ≠ 0 ∧ ∀ r : Nat, 1 ≤ r → r < c → gapL w v gs fs r = 0
end PQ
namespace PQ
open PySem PySem.Spec L2 C8 DL PK PL
/-! ### the readings -/
end PQ
namespace PL
open PySem PySem.Spec L2 C8 DL PK
/-! ### the readings -/
def w_is_row (z : Ad) : WS := (wSeq (wIfS (wOr (wNot (wTest (wB dIsi (wCons (wVar 0) (wCons (wC (.ty "tuple")) wNil))))) (wTest (wOp (dEq fun b => !b) (wB dLen (wCons (wVar 0) wNil)) (wC (.int 2))))) (wRet (wC (.bl false))) wSkip)
  (wRet (wAndV (wCallP (PK.S_is_between z) 3 (fun ds _ => ds) (wCons (wOp dIx (wVar 0) (wC (.int 0))) (wCons (wC (.int 0)) (wCons (wC (.int 1000000)) wNil)))) (wCallP (PK.S_is_integer z) 1 (fun ds _ => ds) (wCons (wOp dIx (wVar 0) (wC (.int 1))) wNil)))))
def w_Ledger___init__ (z : Ad) : WS := (wSeq (wAsg wDnew (gN 2))
  (wSeq (wFor (iNum (wCons (wVar 1) wNil)) (gT 2 (gsCons (gN 3) (gsCons (gN 4) gsNil))) (wSeq (wIfS (wNot (wTest (wCallP (S_is_row z) 1 (fun ds _ => ds) (wCons (wVar 4) wNil)))) wNever wSkip)
  (wDput (wVar 2) (wOp dIx (wVar 4) (wC (.int 0))) (wOp (dAdd false) (wGet2 (wVar 2) (wOp dIx (wVar 4) (wC (.int 0))) (wC (.int 0))) (wOp dIx (wVar 4) (wC (.int 1)))))))
  (wSetF z.Ledger "amounts" (wVar 0) (wDc false (iSeq (wB (dSortD false) (wCons (wVar 2) wNil))) (gN 5) (wTest (wOp (dEq fun b => !b) (wDGet (wVar 2) (wVar 5)) (wC (.int 0)))) (wVar 5) (wDGet (wVar 2) (wVar 5)) [5]))))
def w_Ledger_rows (z : Ad) : WS := (wRet (wTupIt (wFld z.Ledger "amounts" (wVar 0))))
def w_Ledger_greatest (z : Ad) : WS := (wRet (wMaxDd (wCons (wFld z.Ledger "amounts" (wVar 0)) wNil) (wCons (wC .non) wNil)))
def w_Ledger___getitem__ (z : Ad) : WS := (wRet (wGet2 (wFld z.Ledger "amounts" (wVar 0)) (wVar 1) (wC (.int 0))))
def w_Ledger___len__ (z : Ad) : WS := (wRet (wB dLen (wCons (wFld z.Ledger "amounts" (wVar 0)) wNil)))
def w_Ledger___add__ (z : Ad) : WS := (wSeq (wAsg (wOp (dAdd false) (wProp z.Ledger (S_Ledger_rows z) (wVar 0)) (wProp z.Ledger (S_Ledger_rows z) (wVar 1))) (gN 2))
  (wRet (wMakeS z.Ledger (starS 1 (S_Ledger___init__ z)) (wVar 2))))
end PL
namespace PL
open PySem PySem.Spec L2 C8 DL PK
theorem p_is_row (z : Ad) : ∀ ds h Q X, S_is_row z ds h Q X → w_is_row z (endsD Q X) (startD 1 ds) h := pr_isRow
theorem len_is_row (z : Ad) : ∀ ds h Q X, S_is_row z ds h Q X → ds.length = 1 := len_isRow
theorem mo_is_row (z : Ad) : MoF (S_is_row z) := mo_isRow
theorem p_Ledger___init__ (z : Ad) : ∀ ds h Q X, S_Ledger___init__ z ds h Q X → w_Ledger___init__ z (endsD Q X) (startD 6 ds) h := pr_init z.Ledger
theorem len_Ledger___init__ (z : Ad) : ∀ ds h Q X, S_Ledger___init__ z ds h Q X → ds.length = 2 := len_init z.Ledger
theorem mo_Ledger___init__ (z : Ad) : MoF (S_Ledger___init__ z) := mo_init z.Ledger
theorem p_Ledger_rows (z : Ad) : ∀ ds h Q X, S_Ledger_rows z ds h Q X → w_Ledger_rows z (endsD Q X) (startD 1 ds) h := pr_rows z.Ledger
theorem len_Ledger_rows (z : Ad) : ∀ ds h Q X, S_Ledger_rows z ds h Q X → ds.length = 1 := len_rows z.Ledger
theorem mo_Ledger_rows (z : Ad) : MoF (S_Ledger_rows z) := mo_rows z.Ledger
theorem p_Ledger_greatest (z : Ad) : ∀ ds h Q X, S_Ledger_greatest z ds h Q X → w_Ledger_greatest z (endsD Q X) (startD 1 ds) h := pr_grt z.Ledger
theorem len_Ledger_greatest (z : Ad) : ∀ ds h Q X, S_Ledger_greatest z ds h Q X → ds.length = 1 := len_grt z.Ledger
theorem mo_Ledger_greatest (z : Ad) : MoF (S_Ledger_greatest z) := mo_grt z.Ledger
theorem p_Ledger___getitem__ (z : Ad) : ∀ ds h Q X, S_Ledger___getitem__ z ds h Q X → w_Ledger___getitem__ z (endsD Q X) (startD 2 ds) h := pr_getit z.Ledger
theorem len_Ledger___getitem__ (z : Ad) : ∀ ds h Q X, S_Ledger___getitem__ z ds h Q X → ds.length = 2 := len_getit z.Ledger
theorem mo_Ledger___getitem__ (z : Ad) : MoF (S_Ledger___getitem__ z) := mo_getit z.Ledger
theorem p_Ledger___add__ (z : Ad) : ∀ ds h Q X, S_Ledger___add__ z ds h Q X → w_Ledger___add__ z (endsD Q X) (startD 3 ds) h := pr_add z.Ledger
theorem len_Ledger___add__ (z : Ad) : ∀ ds h Q X, S_Ledger___add__ z ds h Q X → ds.length = 2 := len_add z.Ledger
theorem mo_Ledger___add__ (z : Ad) : MoF (S_Ledger___add__ z) := mo_add z.Ledger
theorem len_Ledger___len__ (z : Ad) : ∀ ds h Q X, S_Ledger___len__ z ds h Q X → ds.length = 1 := fun _ _ _ _ ⟨_, e, _⟩ => by rw [e]; rfl
theorem mo_Ledger___len__ (z : Ad) : MoF (S_Ledger___len__ z) := fun _ _ _ _ _ _ hq _ ⟨a, e, q⟩ => ⟨a, e, hq _ _ q⟩
end PL
namespace PL
open PySem PySem.Spec L2 C8 DL PK
theorem p_Ledger___len__ (z : Ad) : ∀ ds h Q X, S_Ledger___len__ z ds h Q X → w_Ledger___len__ z (endsD Q X) (startD 1 ds) h := by
  rintro ds h Q X ⟨es, rfl, q⟩
  show w_Ledger___len__ z (endsD Q X) [some (ledD z.Ledger es)] h
  unfold w_Ledger___len__
  try simp only [u_fld, u_asg, u_gN, u_ret, u_retN, u_skip, u_expr, u_ifs, u_c, u_op, u_neg, u_test, u_and, u_or, u_not, u_if, u_nil, u_cons, u_tup, u_lst, u_callP, u_call, u_b, u_chain, u_andV, u_addI, u_subI, u_mulI, u_divI, u_modI, u_powI, u_cmpI, u_eqI, u_eqS, u_eqB, u_abs, u_intI, u_intB, u_newT, u_newF, u_isN, u_notN, wVar, List.set_cons_zero, List.set_cons_succ, List.getElem?_cons_zero, List.getElem?_cons_succ, List.length_cons, List.length_nil, u_lc, u_for, u_r1, u_r2, u_r3, u_num, u_notV, u_yes, u_w0, u_w1, u_dput, u_get2, u_dget, u_prop, u_fld, u_setF, u_make, u_makeS, u_met, u_calO, u_orT, u_tupIt, u_dc, u_maxDd, u_dnew, u_tupi, ix_p0, ix_p1, wSl, woNone, woSome]
  refine ⟨_, _, rfl, rfl, ?_⟩
  have e : (toK es).length = es.length := toK_len es
  rw [← e] at q
  exact ⟨_, rfl, fin_of q⟩
end PL
namespace PQ
open PySem PySem.Spec L2 C8 DL PK PL
/-! ### sums over a ledger, by its amounts -/
theorem gap_same {w v : Int} {gs fs : Prs} {c : Int} (h : w = v ∧ gs = fs) : gapL w v gs fs c = 0 := by
  obtain ⟨rfl, rfl⟩ := h
  unfold gapL; omega
theorem IsLeast.one {w v : Int} {gs fs : Prs} {d d' : D} (a : IsLeast w v gs fs d) (b : IsLeast w v gs fs d') : d = d' := by
  rcases a with ⟨e1, e2, rfl⟩ | ⟨c, c1, _, rfl, cn, cm⟩
  · rcases b with ⟨_, _, rfl⟩ | ⟨c', c1', _, rfl, cn', cm'⟩
    · rfl
    · exact absurd (gap_same ⟨e1, e2⟩) cn'
  · rcases b with ⟨e1, e2, rfl⟩ | ⟨c', c1', _, rfl, cn', cm'⟩
    · exact absurd (gap_same ⟨e1, e2⟩) cn
    · have : c = c' := by
        by_cases l : c < c'
        · exact absurd (cm' c c1 l) cn
        · by_cases l' : c' < c
          · exact absurd (cm c' c1' l') cn'
          · omega
      rw [this]
end PQ
namespace PK
open PySem PySem.Spec L2 C8 DL
/-! ### the offsets of notes are within the reach -/
theorem noteB_app (lm : Bool) : ∀ (b c : List Ac) (i : Nat) (s : WSt), noteB lm i (b ++ c) s = noteB lm i b s ++ noteB lm (i + sizB b) c (folS lm b s)
  | [], c, i, s => by rw [List.nil_append, noteB, folS, sizB]; rfl
  | a :: r, c, i, s => by rw [List.cons_append, noteB, noteB, noteB_app lm r c, folS, sizB, List.append_assoc, Nat.add_assoc]
theorem folS_app (lm : Bool) : ∀ (b c : List Ac) (s : WSt), folS lm (b ++ c) s = folS lm c (folS lm b s)
  | [], c, s => by rw [List.nil_append, folS]
  | a :: r, c, s => by rw [List.cons_append, folS, folS, folS_app lm r c]
def OffB (lm : Bool) (l : List Ac) (R N : Nat) : Prop := ∀ (i : Nat) (s : WSt), (∀ x ∈ noteB lm i l s, x.off ≤ s.2.1 + R) ∧ (folS lm l s).2.1 ≤ s.2.1 + N
theorem OffB.mono {lm : Bool} {l : List Ac} {R N R2 : Nat} (h : OffB lm l R N) (e : R ≤ R2) : OffB lm l R2 N := fun i s => ⟨fun x hx => by have := (h i s).1 x hx; omega, (h i s).2⟩
theorem OffB.nil {lm : Bool} : OffB lm [] 0 0 := fun i s => ⟨fun x hx => (by rw [noteB] at hx; cases hx), (by rw [folS]; omega)⟩
theorem OffB.app {lm : Bool} {b c : List Ac} {R N R2 N2 : Nat} (h1 : OffB lm b R N) (h2 : OffB lm c R2 N2) : OffB lm (b ++ c) (max R (N + R2)) (N + N2) := fun i s => by
  obtain ⟨a1, a2⟩ := h1 i s
  obtain ⟨b1, b2⟩ := h2 (i + sizB b) (folS lm b s)
  refine ⟨fun x hx => ?_, ?_⟩
  · rw [noteB_app] at hx
    rcases List.mem_append.mp hx with hx | hx
    · have := a1 x hx; omega
    · have := b1 x hx; omega
  · rw [folS_app]; omega
theorem OffB.rep {lm : Bool} {b : List Ac} {R N : Nat} (h : OffB lm b R N) (l : N ≤ R) : ∀ n : Nat, OffB lm (List.replicate n b).flatten (if n = 0 then 0 else (n - 1) * N + R) (n * N)
  | 0 => by rw [if_pos rfl, Nat.zero_mul]; exact OffB.nil
  | n + 1 => by
    rw [List.replicate_succ, List.flatten_cons, if_neg (by omega), Nat.add_sub_cancel, Nat.succ_mul, Nat.add_comm (n * N) N]
    refine (h.app (OffB.rep h l n)).mono ?_
    by_cases z : n = 0
    · subst z; rw [if_pos rfl]; omega
    · rw [if_neg z]
      obtain ⟨k, rfl⟩ : ∃ k, n = k + 1 := ⟨n - 1, by omega⟩
      rw [Nat.add_sub_cancel, Nat.succ_mul]; omega
end PK
namespace PK
open PySem PySem.Spec L2 C8 DL
/-! ### how great the numbers of a walk grow: by the number of points -/
end PK
/-! x == y and x != y by a written __eq__ -/
namespace DL
open PySem PySem.Spec L2 C8 PyProof.Rows
section
open Builtin
variable {prog : Program} {w : World} {A A₀ : Around} {E : Value → Shared → Prop} {s : Shared} {K : PySem.W.Frag} {x C L f : Addr} {h₀ : Heap} {m : Str → Option Value} {ox : Obj} {od : Option Obj} {b tb : Value}
theorem neEntry_K (hu : A.units < cLine) (X : K.In s.heap) (I : PySem.W.InstAt s.heap x ox C od) (hs : PySem.W.findIn K (.ref C) "__eq__" = some (some (.ref f))) (hf : PySem.W.isFn K (.ref f) = true) {Q : Fin → Shared → Prop}
    (hcall : wpAny (model prog w) A (call (.ref f) [.ref x, b]) (fun v s' => ∃ t, v = .bool t ∧ Q (.done (.ret (.bool (!t)))) s') E s) :
    wpAny (model prog w) A (Builtin.«object.__ne__» ⟨[.ref x, b], []⟩) Q E s := by
  unfold Builtin.«object.__ne__»
  repeat (first
    | with_reducible refine wpAny_cRoomFor hu ?_
    | (refine wpAny_bind (m := callSpecialIfBound? (.ref x) (Str.ofString "__eq__") [b])
        (PySem.W.ifBound_K X I hs hf (wpAny_mono hcall (fun r s' hr => by
          obtain ⟨t, rfl, hq⟩ := hr
          repeat (first | exact hq | exact wpAny_pure hq | exact wpAny_truthy_bool hq | (refine wpAny_bind (m := truthy (.bool _)) (wpAny_truthy_bool ?_)) | wp_step)) fun _ _ e => e)))
    | wp_step)
theorem ifBound_objNe {M : Model} {args : List Value} {Q : Option Value → Shared → Prop} (X : K.In s.heap) (I : PySem.W.InstAt s.heap x ox C od) (hs : PySem.W.findIn K (.ref C) "__ne__" = some (some (.builtin "object.__ne__")))
    (h : wpAny M A (call (.builtin "object.__ne__") (.ref x :: args)) (fun v => Q (some v)) E s) : wpAny M A (callSpecialIfBound? (.ref x) "__ne__" args) Q E s := by
  simp only [callSpecialIfBound?, bindSpecialIfBound?]
  refine wpAny_holding (wpAny_bind (wpAny_bind (wpAny_bind (I.type.here ((PySem.W.looks_findIn X hs).here ?_)))))
  refine wpAny_bind (wpAny_askSetting (wpAny_ite ?_))
  have fin : wpAny M A (call (.builtin "object.__ne__") ([.ref x] ++ args) >>= fun v => pure (some v)) Q E s := wpAny_bind (wpAny_mono h (fun v s' h' => wpAny_pure h') fun _ _ h' => h')
  split
  · exact wpAny_bind (wpAny_of_eq (F.cmp_object.ne.bind _) (wpAny_pure (by exact fin)))
  · exact wpAny_tryCatch (wpAny_bind (wpAny_of_eq (F.cmp_object.ne.bind _) (wpAny_pure (by exact fin))))
theorem call_objNe {Q : Value → Shared → Prop} (hu : A.in1.units < cLine) (X : K.In s.heap) (I : PySem.W.InstAt s.heap x ox C od) (hm : PySem.W.mroIn K C (.type "object") = some true)
    (hs : PySem.W.findIn K (.ref C) "__eq__" = some (some (.ref f))) (hf : PySem.W.isFn K (.ref f) = true)
    (hcall : wpAny (model prog w) A.in1 (call (.ref f) [.ref x, b]) (fun v s' => ∃ t, v = .bool t ∧ Q (.bool (!t)) s') E s) :
    wpAny (model prog w) A (call (.builtin "object.__ne__") [.ref x, b]) Q E s :=
  wpAny_call (codeAny_call_builtin F.cmp_object.ne.plain F.cmpEntry_ne (PySem.W.check_slot F.cmpKind_ne F.cmpSplit_ne (I.type.andThen (PySem.W.looks_mroIn X hm)) (F.cmpArgs_ne _ _)
    (neEntry_K hu X I hs hf hcall)))
theorem ne_K {Q : Value → Shared → Prop} (hu : A.units < cLine) (hu1 : A.in1.units < cLine) (F : PyProof.Rows.Fr h₀ L s.heap m) (X₀ : K.In h₀) (I : PySem.W.InstAt s.heap x ox C od) (hb : PySem.W.Looks (model prog w) s.heap (typeOf b) tb) (hn : PySem.W.notFirst K C tb = true)
    (hm : PySem.W.mroIn K C (.type "object") = some true) (hne : PySem.W.findIn K (.ref C) "__ne__" = some (some (.builtin "object.__ne__"))) (hs : PySem.W.findIn K (.ref C) "__eq__" = some (some (.ref f))) (hf : PySem.W.isFn K (.ref f) = true)
    (h : wpAny (model prog w) A.in1 (call (.ref f) [.ref x, b]) (fun v s' => ∃ t, v = .bool t ∧ Q (.bool (!t)) s') E s) : wpAny (model prog w) A (richCompare .NotEq (.ref x) b) Q E s := by
  have X := X₀.keeps F.keep
  have one : wpAny (model prog w) A (tryCompare (.ref x) "__ne__" b) (fun r s' => ∃ v, r = some v ∧ Q v s') E s := by
    unfold tryCompare
    refine wpAny_bind (ifBound_objNe X I hne (call_objNe hu1 X I hm hs hf (wpAny_mono h (fun v s' hv => ?_) fun _ _ e => e)))
    obtain ⟨t, rfl, hq⟩ := hv
    exact ⟨t, rfl, wpAny_pure ⟨_, rfl, hq⟩⟩
  unfold richCompare
  simp only [oneThing_ref, cmpInfo_NotEq]
  refine wpAny_holding (wpAny_bind (wpAny_cRoomFor hu ?_))
  refine wpAny_bind (I.type.here (wpAny_bind (hb.here ?_)))
  split
  · rename_i q
    have e : PySem.W.subIn K tb (.ref C) = some false := by
      rcases Bool.or_eq_true_iff.mp hn with e | e
      · rw [beq_iff_eq.mp e] at q; simp at q
      · exact beq_iff_eq.mp e
    refine wpAny_bind ((PySem.W.looks_subIn X e).here ?_)
    simp only [Bool.false_eq_true, if_false]
    refine wpAny_bind (wpAny_mono one (fun r s' z => ?_) fun _ _ e => e)
    obtain ⟨v, rfl, hq⟩ := z
    exact wpAny_pure hq
  · refine wpAny_bind (wpAny_pure ?_)
    simp only [Bool.false_eq_true, if_false]
    refine wpAny_bind (wpAny_mono one (fun r s' z => ?_) fun _ _ e => e)
    obtain ⟨v, rfl, hq⟩ := z
    exact wpAny_pure hq
end
section
variable {X : Cx} {E : XK} {gz : Bool} {k j : Nat} {a b : Expr} {wa wb : WE} {pos : Pos} {C g : Addr} {S : FSpec}
/-- x == y or x != y, both instances of C with a written __eq__ -/
def rOwnC (C : Addr) (f : Bool → Bool) (sp : Sp) : R2 := fun x y H Q => ∃ a dx fs b dy gs, x = .ref a ∧ y = .ref b ∧ H a = some (.ins C dx fs) ∧ H b = some (.ins C dy gs) ∧ sp [x, y] H (fun v H' => ∃ t, v = .bl t ∧ Q (.bl (f t)) H') L2.E0
theorem op_ownEq (hs : PySem.W.findIn X.K (.ref C) "__eq__" = some (some (.ref g))) (hf : PySem.W.isFn X.K (.ref g) = true) (G : FnRD X.prog X.w X.K X.mg X.base j g S) (hr : Room j X.A) :
    OpR X (compareOp .Eq) (rOwnC C (fun b => b) fun vs H Q E => spD X.K S vs H Q E) := by
  intro pins s σ H x y v u Q I rx ry h
  obtain ⟨p, dx, fs, q, dy, gs, rfl, rfl, hp, hq, z⟩ := h
  cases (show v = Value.ref p from rx)
  cases (show u = Value.ref q from ry)
  obtain ⟨ox, od, J⟩ := ins_at I hp
  obtain ⟨oy, ody, J'⟩ := ins_at I hq
  obtain ⟨mm, hF⟩ := I.fr
  show wpAny (model X.prog X.w) X.A (richCompare .Eq _ _) (EP X pins σ Q) X.xe s
  refine PySem.W.cmp_K (op := .Eq) (tb := .ref C) hr.units0 hF I.ok.mod.kin J J'.type (by simp [PySem.W.notFirst]) hs hf (wpAny_mono (wpAny_call (run_fnR (us := [.ref p, .ref q]) (vs := [.ref p, .ref q]) G hr pass_no I (.cons rfl (.cons rfl .nil)) z)) (fun w s' z => ?_) fun _ _ x => x)
  obtain ⟨z', H', I', rz, t, et, qz⟩ := z
  subst et
  cases rz
  exact ⟨.bl t, H', I', rfl, qz⟩
theorem op_ownNe (hm : PySem.W.mroIn X.K C (.type "object") = some true) (hne : PySem.W.findIn X.K (.ref C) "__ne__" = some (some (.builtin "object.__ne__"))) (hs : PySem.W.findIn X.K (.ref C) "__eq__" = some (some (.ref g))) (hf : PySem.W.isFn X.K (.ref g) = true) (G : FnRD X.prog X.w X.K X.mg X.base j g S) (hr : Room (j + 1) X.A) :
    OpR X (compareOp .NotEq) (rOwnC C (fun b => !b) fun vs H Q E => spD X.K S vs H Q E) := by
  intro pins s σ H x y v u Q I rx ry h
  obtain ⟨p, dx, fs, q, dy, gs, rfl, rfl, hp, hq, z⟩ := h
  cases (show v = Value.ref p from rx)
  cases (show u = Value.ref q from ry)
  obtain ⟨ox, od, J⟩ := ins_at I hp
  obtain ⟨oy, ody, J'⟩ := ins_at I hq
  obtain ⟨mm, hF⟩ := I.fr
  show wpAny (model X.prog X.w) X.A (richCompare .NotEq _ _) (EP X pins σ Q) X.xe s
  refine ne_K hr.units0 hr.in1.units0 hF I.ok.mod.kin J J'.type (by simp [PySem.W.notFirst]) hm hne hs hf (wpAny_mono (wpAny_call (SlX.run_at (us := [.ref p, .ref q]) (ws := [.ref p, .ref q]) G hr.in1 I.env0.in1 pass_no I (.cons rfl (.cons rfl .nil)) z)) (fun w s' z => ?_) fun _ _ x => x)
  obtain ⟨z', H', I', rz, t, et, qz⟩ := z
  subst et
  cases rz
  exact ⟨t, rfl, .bl (!t), H', I', rfl, qz⟩
def dOwnC (C : Addr) (S : FSpec) (f : Bool → Bool) (x y : D) (h : AH) (Q : KD) : Prop := isI C x h ∧ isI C y h ∧ S [x, y] h (fun d h' => ∃ t, d = .bl t ∧ Q (.bl (f t)) h') (fun _ _ => False)
theorem dOwnC_ok {K : PySem.W.Frag} {f : Bool → Bool} (mo : MoF S) : OpD K (rOwnC C f fun vs H Q E => spD K S vs H Q E) (dOwnC C S f) where
  to := by
    rintro F h H x y vx vy Q S0 rx ry ⟨⟨fs, ex⟩, ⟨gs, ey⟩, q⟩
    obtain ⟨p, dx, us, rfl, hp, _⟩ := S0.insOf rx ex
    obtain ⟨r, dy, ws, rfl, hq, _⟩ := S0.insOf ry ey
    refine ⟨p, dx, us, r, dy, ws, rfl, rfl, hp, hq, F, _, h, S0, .cons rx (.cons ry .nil), mo _ _ _ _ _ _ (fun d h' z => ?_) (fun _ _ z => z.elim) q⟩
    obtain ⟨t, rfl, z⟩ := z
    intro F1 H1 v e1 S1 r1
    cases r1
    exact ⟨t, rfl, z F1 H1 _ e1 S1 (.bl _)⟩
  mo := fun hq ⟨a, b, q⟩ => ⟨a, b, mo _ _ _ _ _ _ (fun _ _ ⟨t, e, z⟩ => ⟨t, e, hq _ _ z⟩) (fun _ _ z => z) q⟩
end
section
variable (P : Program) (w : World) (K : PySem.W.Frag) (mg : Str → Option Value) (base : Heap)
structure EqC (C : Addr) (k : Nat) (S : FSpec) : Prop where
  ex : ∃ g, PySem.W.findIn K (.ref C) "__eq__" = some (some (.ref g)) ∧ PySem.W.isFn K (.ref g) = true ∧ PySem.W.mroIn K C (.type "object") = some true ∧ PySem.W.findIn K (.ref C) "__ne__" = some (some (.builtin "object.__ne__")) ∧ FnRD P w K mg base k g S
  mo : MoF S
end
section
variable {X : Cx} {E : XK} {gz : Bool} {k j : Nat} {a b : Expr} {wa wb : WE} {pos : Pos} {C g : Addr} {S : FSpec}
theorem ag_ownEq (c : Cg gz X E k) (R : EqC X.prog X.w X.K X.mg X.base C j S) (hj : j + 1 ≤ k) (ha : AE X E a wa) (hb : AE X E b wb) (hm : behindInMarks .Eq b = false := by first | exact nobehind _ (by decide) (by decide) | rfl) : AE X E (.Compare a [.Eq] [b] pos) (wOp (dOwnC C S fun b => b) wa wb) := by
  obtain ⟨g, h1, h2, h3, h4, h5⟩ := R.ex
  exact ae_cmp (dOwnC_ok R.mo) (op_ownEq h1 h2 (h5.mono (Nat.le_trans (Nat.le_succ _) hj)) c.room) ha hb hm
theorem ag_ownNe (c : Cg gz X E k) (R : EqC X.prog X.w X.K X.mg X.base C j S) (hj : j + 1 ≤ k) (ha : AE X E a wa) (hb : AE X E b wb) (hm : behindInMarks .NotEq b = false := by first | exact nobehind _ (by decide) (by decide) | rfl) : AE X E (.Compare a [.NotEq] [b] pos) (wOp (dOwnC C S fun b => !b) wa wb) := by
  obtain ⟨g, h1, h2, h3, h4, h5⟩ := R.ex
  exact ae_cmp (dOwnC_ok R.mo) (op_ownNe h3 h4 h1 h2 h5 (c.room.mono hj)) ha hb hm
end
end DL
/-! methods called by keywords; methods whose last parameter has a default -/
namespace DL
open PySem PySem.Spec L2 C8
/-! ### a default behind the parameters that are written -/
/-! ### cls(e, ..) -/
end DL
namespace PN
open PySem PySem.Spec L2 C8 DL PK PL PQ
/-! ### kinds of programs, ledgers moved -/
def S_Ledger___eq__ (z : Ad) : FSpec := fun ds h Q _ => ∃ es fs : Prs, ds = [ledD z.Ledger es, ledD z.Ledger fs] ∧ Std es ∧ Std fs ∧ Q (.bl (decide (es = fs))) h
end PN
namespace PN
open PySem PySem.Spec L2 C8 DL PK PL PQ
/-! ### the readings -/
def w_Ledger___eq__ (z : Ad) : WS := (wRet (wAndV (wB (dIsiO z.Ledger) (wCons (wVar 1) (wCons (wC (.ref z.Ledger)) wNil))) (wOp (dEqK fun b => b) (wFld z.Ledger "amounts" (wVar 0)) (wFld z.Ledger "amounts" (wVar 1)))))
end PN
namespace PQ
open PySem PySem.Spec L2 C8 DL PK PL
end PQ
namespace PN
open PySem PySem.Spec L2 C8 DL PK PL PQ
theorem len_Ledger___eq__ (z : Ad) : ∀ ds h Q X, S_Ledger___eq__ z ds h Q X → ds.length = 2 := fun _ _ _ _ ⟨_, _, e, _⟩ => by rw [e]; rfl
theorem mo_Ledger___eq__ (z : Ad) : MoF (S_Ledger___eq__ z) := fun _ _ _ _ _ _ hq _ ⟨a, b, e, o1, o2, q⟩ => ⟨a, b, e, o1, o2, hq _ _ q⟩
/-! ### rows moved, rows above 0 -/
end PN
namespace PB
open PySem PySem.Spec L2 C8 DL PK PL PQ
/-! ### sums over blocks; the least multiple -/
end PB
namespace PB
open PySem PySem.Spec L2 C8 DL PK PL PQ
/-! ### the readings -/
end PB
namespace PB
open PySem PySem.Spec L2 C8 DL PK PL PQ
end PB
/-! exceptions as values: isinstance, fields; counts and places in lists of bools -/
namespace DL
open PySem PySem.Spec L2 C8 PyProof.Rows
/-- what a kept exception's class must say -/
structure XVal (K : PySem.W.Frag) (C : Addr) : Prop where
  ga : PySem.W.findIn K (.ref C) "__getattribute__" = some (some (.builtin "BaseException.__getattribute__"))
  gg : PySem.W.findIn K (.ref C) "__getattr__" = some none
  sb : PySem.W.subIn K (.ref C) (.type "BaseException") = some true
  hd : PySem.W.hasDictIn K C = true
  cl : PySem.W.findIn K (.ref C) "__class__" = some (some (.builtin "object.__class__"))
  nn : PySem.W.specialIn K (.builtin "object.__class__") "__get__" = some (some (.builtin "getset_descriptor.__get__"))
  tk : PySem.W.takesIn K (.builtin "object.__class__") = some true
  mo : PySem.W.mroIn K C (.type "object") = some true
theorem XVal.is {K : PySem.W.Frag} {C : Addr} (T : XVal K C) : (PySem.W.clsIn K C).isSome = true := by
  obtain ⟨cd, hc, _⟩ := PySem.W.any_some T.hd
  rw [hc]; rfl
theorem XVal.kit {K : PySem.W.Frag} {C x : Addr} {ox : Obj} {od : Option Obj} (T : XVal K C) : PySem.W.KitX K (.ref x) (.ref C) (fun h => PySem.W.InstAt h x ox C od) := PySem.W.kitx_exc T.is T.ga T.gg T.sb T.cl T.nn T.tk T.mo
/-- the kept exception at a, with its fields -/
def KeptX (H : Hp) (a C : Addr) (fs : List (Str × V)) : Prop := (H a = some (exV a C none) ∧ fs = []) ∨ ∃ dd, H a = some (exV a C (some dd)) ∧ H dd = some (.xd fs)
theorem exv_at {P : Program} {w : World} {H : Hp} {h : Heap} {a C : Addr} {d : Option Addr} (hok : HOk P w H h) (e : H a = some (exV a C d)) : ∃ (oe : Obj) (vs : Array Value), h.get? a = some oe ∧ Zc (.ref C) d oe ∧ oe.data = .fields vs := by
  have x : ObjOk P w H h a (.ext fun h => ∃ (oe : Obj) (vs : Array Value), h.get? a = some oe ∧ Zc (.ref C) d oe ∧ oe.data = .fields vs) := hok a _ e
  exact x.1
theorem kept_inst {X : Cx} {pins : List (Addr × Obj)} {σ : L2.St} {H : Hp} {s : Shared} {a C : Addr} {fs : List (Str × V)} (I : Inv X pins σ H s) (k : KeptX H a C fs) : ∃ oe od, PySem.W.InstAt s.heap a oe C od ∧
    ∀ f v, fs.lookup f = some v → ∃ o u, od = some o ∧ RelV v u ∧ PySem.W.lookIn f o = some (some u) := by
  rcases k with ⟨e, rfl⟩ | ⟨dd, e, ed⟩
  · obtain ⟨oe, vs, g, hz, hd⟩ := exv_at I.hok e
    exact ⟨oe, none, ⟨g, hz.1, by unfold PySem.W.notCls; rw [hd] <;> rfl, by rw [hz.2]; trivial⟩, fun f v h => by cases h⟩
  · obtain ⟨oe, vs, g, hz, hd⟩ := exv_at I.hok e
    have hx : ObjOk X.prog X.w H s.heap dd (.xd fs) := I.hok dd _ ed
    obtain ⟨mA, hns, hr⟩ := hx
    obtain ⟨od, ho, hl⟩ := lookIn_ns hns
    refine ⟨oe, some od, ⟨g, hz.1, by unfold PySem.W.notCls; rw [hd] <;> rfl, by rw [hz.2]; exact ho⟩, fun f v h => ?_⟩
    obtain ⟨u, hu, ru⟩ := RelO.some_of (v := v) (o := mA f) (by rw [← h]; exact hr f)
    exact ⟨od, u, rfl, ru, by rw [hl, hu]⟩
theorem rep_kept {K : PySem.W.Frag} {F : Hp} {h : AH} {H : Hp} {C : Addr} {fs : List (Str × D)} {v : V} (S : Sim K F h H) (r : Rep K F (.xob C fs) v) : ∃ a vs, v = .ref a ∧ KeptX H a C vs ∧ RepF K F fs vs := by
  cases r with
  | xob0 e => exact ⟨_, [], rfl, .inl ⟨S.fz _ _ e, rfl⟩, .nil⟩
  | xob e ed rf => exact ⟨_, _, rfl, .inr ⟨_, S.fz _ _ e, S.fz _ _ ed⟩, rf⟩
/-! ### isinstance -/
def rIsX (K : PySem.W.Frag) : List V → Hp → VK → Prop := fun xs H Q => ∃ (a C : Addr) (fs : List (Str × V)) (c : V) (cv : Value) (b : Bool), xs = [.ref a, c] ∧ KeptX H a C fs ∧ XVal K C ∧ ClsV c cv ∧ PySem.W.kitOne K (.ref C) cv = some b ∧ Q (.bl b) H
theorem call_isX {X : Cx} : CallR X (.builtin "isinstance") (rIsX X.K) := by
  intro pins s σ H xs us Q I r h
  obtain ⟨a, C, fs, c, cv, b, rfl, k, T, kc, e, q⟩ := h
  obtain ⟨u1, u2, rfl, r1, r2⟩ := vals2 r
  obtain rfl : u1 = Value.ref a := r1
  have e2 := kc.eq r2
  subst e2
  obtain ⟨oe, od, J, _⟩ := kept_inst I k
  exact PySem.W.kia_one T.kit I.kIn J e (fun z => nomatch z) fun tk => ⟨.bl b, H, I.tok tk, rfl, q⟩
/-- a class as data -/
inductive ClsD : D → V → Value → Prop where
  | ty (n : String) : ClsD (.ty n) (.ty n) (.type n)
  | own (C : Addr) : ClsD (.ref C) (.ref C) (.ref C)
theorem ClsD.v {d : D} {v : V} {u : Value} (k : ClsD d v u) : ClsV v u := by
  cases k with
  | ty n => exact .ty n
  | own C => exact .own C
theorem ClsD.rep {K : PySem.W.Frag} {F : Hp} {d : D} {v w : V} {u : Value} (k : ClsD d v u) (r : Rep K F d w) : w = v := by
  cases k with
  | ty n => cases r; rfl
  | own C => cases r; rfl
/-- whose instances are which -/
abbrev XTab := List (Addr × D × Bool)
def XTabOk (K : PySem.W.Frag) (M : XTab) : Prop := ∀ p ∈ M, XVal K p.1 ∧ ∃ v u, ClsD p.2.1 v u ∧ PySem.W.kitOne K (.ref p.1) u = some p.2.2
def dIsX (M : XTab) (ds : List D) (h : AH) (Q : KD) : Prop := ∃ C fs c b, ds = [.xob C fs, c] ∧ (C, c, b) ∈ M ∧ Q (.bl b) h
section
variable {X : Cx}
theorem dIsX_ok {M : XTab} (ok : XTabOk X.K M) : CaD X (.builtin "isinstance") (dIsX M) where
  ex := ⟨_, call_isX, fun {F h H ds vs Q} S r q => by
    obtain ⟨C, fs, c, b, rfl, hm, q⟩ := q
    obtain ⟨v, w, rfl, r1, r2⟩ := r.two
    obtain ⟨a, us, rfl, k, _⟩ := rep_kept S r1
    obtain ⟨T, v2, u, kc, e⟩ := ok _ hm
    have ev := kc.rep r2
    subst ev
    exact ⟨a, C, us, _, u, b, rfl, k, T, kc.v, e, q.at S (.bl _)⟩⟩
  mo := fun {ds h Q Q'} hq ⟨C, fs, c, b, e, hm, q⟩ => ⟨C, fs, c, b, e, hm, hq _ _ q⟩
/-! ### fields -/
def wXFld (Cs : List Addr) (f : Str) (we : WE) : WE := fun ρ h Q X => we ρ h (fun x h1 => ∃ C fs d, x = .xob C fs ∧ C ∈ Cs ∧ fs.lookup f = some d ∧ Q d h1) X
theorem ae_xfld {E : XK} {Cs : List Addr} {f : Str} {e : Expr} {we : WE} {pos : Pos} (ok : ∀ C ∈ Cs, XVal X.K C ∧ PySem.W.findIn X.K (.ref C) f = some none) (he : AE X E e we) (hb : attributeBase e f X.env (eval e X.env) = eval e X.env := by rfl) : AE X E (.Attribute e f pos) (wXFld Cs f we) := by
  refine ⟨⟨fun pins s σ H Q I hq => ?_⟩, fun ρ h Q Q' X X' hq hx q => he.mo _ _ _ _ _ _ (fun x h1 ⟨C, fs, d, e1, e2, e3, z⟩ => ⟨C, fs, d, e1, e2, e3, hq _ _ z⟩) hx q⟩
  obtain ⟨F, ρ, h, S, R, q⟩ := hq
  refine attr_of hb (thn (he.run.run pins s σ H (fun v H1 => ∃ (a C : Addr) (vs : List (Str × V)) (u : V), v = .ref a ∧ C ∈ Cs ∧ KeptX H1 a C vs ∧ vs.lookup f = some u ∧ Q u H1) I ⟨F, ρ, h, S, R, he.mo _ _ _ _ _ _ (fun x h1 z => ?_) (fun _ _ z => z) q⟩) fun u s1 hh => ?_)
  · obtain ⟨C, fs, d, rfl, hC, hl, z⟩ := z
    intro F1 H1 v e1 S1 r
    obtain ⟨a, us, rfl, k, rf⟩ := rep_kept S1 r
    obtain ⟨w, hw, rw'⟩ := rf.look hl
    exact ⟨a, C, us, w, rfl, hC, k, hw, z F1 H1 w e1 S1 rw'⟩
  · obtain ⟨v, H1, I1, r1, a, C, vs, w, rfl, hC, k, hl, z⟩ := hh
    obtain rfl : u = Value.ref a := r1
    obtain ⟨T, hno⟩ := ok C hC
    obtain ⟨oe, od, J, hf⟩ := kept_inst I1 k
    obtain ⟨o, u2, rfl, ru, hlk⟩ := hf f w hl
    exact HandSPX.exc_get I1.kIn J T.ga T.gg T.sb (PySem.W.findObj_own T.hd hno rfl hlk) (handed_of ru) ⟨w, H1, I1.tok _, ru, z⟩
/-! ### lists of bools -/
def rCntF (K : PySem.W.Frag) : V → List V → Hp → VK → Prop := fun x xs H Q => ∃ (a : Addr) (ys : List V) (y : V), x = V.ref a ∧ xs = [y] ∧ SqL K H a ys ∧ flatV y = true ∧ ys.all flatV = true ∧ Q (.int ((ys.countP fun z => eqV z y : Nat) : Int)) H
theorem count_flat {y : V} : ∀ {ys : List V} {us : List Value}, Vals ys us → ys.all flatV = true → us.countP (eqU y) = ys.countP fun z => eqV z y
  | _, _, .nil, _ => rfl
  | _, _, .cons r h, f => by
    rw [List.all_cons, Bool.and_eq_true] at f
    rw [List.countP_cons, List.countP_cons, count_flat h f.2, eqU_of r f.1]
theorem mt_countF : MtR X "list.count" (rCntF X.K) := by
  intro pins s σ H x xs v us Q I rx rxs h
  obtain ⟨p, ys, y, rfl, rfl, hs, fy, fys, q⟩ := h
  cases rx
  obtain ⟨u, rfl, ru⟩ := rxs.one
  obtain ⟨its, rv, ⟨⟨cls, dd, data, sl⟩, n, ho, hc, hdn, hd⟩, hlen⟩ := I.list hs
  simp only at hc hd
  subst hc hd
  refine call_meets PySem.F.slot_list_count ⟨_, ho, rfl⟩ PySem.F.entry_list_count (PySem.F.args_list_count_2 _ _) (SeqAt.list_countAt p its.toArray n dd sl u (eqU y)) ⟨ho, fun z hz => mem_eqAt ru fy rv fys z (by simpa using hz), ?_⟩
  refine ⟨.int (ys.countP fun z => eqV z y : Nat), H, I.tok _, ⟨s.toks, ?_⟩, q⟩
  rw [← count_flat rv fys]
end
def dCountB (x : D) (ys : List D) (h : AH) (Q : KD) : Prop := ∃ (bs : List Bool) (k : Bool), lstOf h x = some (bs.map D.bl) ∧ ys = [.bl k] ∧ Q (.int ((bs.countP fun b => b == k : Nat) : Int)) h
def dIndexB (x : D) (ys : List D) (h : AH) (Q : KD) : Prop := ∃ (bs : List Bool) (k : Bool) (j : Nat), lstOf h x = some (bs.map D.bl) ∧ ys = [.bl k] ∧ bs.findIdx? (fun b => b == k) = some j ∧ Q (.int (j : Nat)) h
theorem reps_bl {K : PySem.W.Frag} {F : Hp} : ∀ {bs : List Bool} {vs : List V}, Reps K F (bs.map D.bl) vs → vs = bs.map V.bl
  | [], _, .nil => rfl
  | b :: bs, _, .cons r t => by cases r; rw [List.map_cons, reps_bl t]
theorem flat_bl : ∀ {bs : List Bool}, (bs.map V.bl).all flatV = true
  | [] => rfl
  | b :: bs => by rw [List.map_cons, List.all_cons, flat_bl]; rfl
theorem dCountB_ok {K : PySem.W.Frag} : MeD K "list" (rCntF K) dCountB isL where
  ty := isL_ty
  mo := fun hq ⟨bs, k, e1, e2, q⟩ => ⟨bs, k, e1, e2, hq _ _ q⟩
  to := by
    rintro F h H x ys vx vs Q S rx rs ⟨bs, k, e, rfl, q⟩
    obtain ⟨a, us, rfl, ha, ru⟩ := S.lstOf rx e
    obtain rfl := reps_bl ru
    cases rs with
    | cons r rs =>
      cases rs
      cases r
      refine ⟨a, _, .bl k, rfl, rfl, .of ha, rfl, flat_bl, ?_⟩
      have ec : (bs.map V.bl).countP (fun z => eqV z (.bl k)) = bs.countP fun b => b == k := by
        rw [List.countP_map]; rfl
      rw [ec]
      exact q F H _ (.refl F) S (.int _)
theorem dIndexB_ok {K : PySem.W.Frag} : MeD K "list" (rIndex K) dIndexB isL where
  ty := isL_ty
  mo := fun hq ⟨bs, k, j, e1, e2, e3, q⟩ => ⟨bs, k, j, e1, e2, e3, hq _ _ q⟩
  to := by
    rintro F h H x ys vx vs Q S rx rs ⟨bs, k, j, e, rfl, hj, q⟩
    obtain ⟨a, us, rfl, ha, ru⟩ := S.lstOf rx e
    obtain rfl := reps_bl ru
    obtain ⟨hl, h1, h2⟩ := List.findIdx?_eq_some_iff_getElem.mp hj
    cases rs with
    | cons r rs =>
      cases rs
      cases r
      refine ⟨a, _, .bl k, j, .bl bs[j], rfl, rfl, .of ha, rfl, flat_bl, ?_, h1, fun m z' hm hz => ?_, q F H _ (.refl F) S (.int _)⟩
      · rw [List.getElem?_map, List.getElem?_eq_getElem hl]; rfl
      · have lm : m < bs.length := Nat.lt_trans hm hl
        rw [List.getElem?_map, List.getElem?_eq_getElem lm] at hz
        obtain rfl := Option.some.inj hz
        have z := h2 m hm
        exact Bool.eq_false_iff.mpr z
section
variable {X : Cx} {E : XK} {o e : Expr} {wo : WE} {wl : WA} {apos cpos : Pos}
theorem ae_countB (ho : AE X E o wo) (ha : AA X E [e] wl) (hbase : attributeBase o "count" X.env (eval o X.env) = eval o X.env := by rfl)
    (hfew : ((backTo cpos (starEach [e] X.env)).all (fun x => !x.1) && (backToKw cpos (keywordEach [] X.env)).all (fun x => x.1.isSome) && decide ([e].length + ([] : List Keyword).length + (if ([] : List Keyword).isEmpty then 0 else 1) < 30)) = true := by rfl)
    (hline : (apos.endLine == cpos.line) = true := by rfl) (hs : starEach [e] X.env = (false, eval e X.env) :: starEach [] X.env := by rfl) (hplain : (backTo cpos (starEach [] X.env)).any (·.1) = false := by rfl) :
    AE X E (.Call (.Attribute o "count" apos) [e] [] cpos) (wMethT isL dCountB wo wl) :=
  ae_bm dCountB_ok mt_countF PySem.F.plainAttrs_list PySem.F.slot_list_count PySem.F.type_list_count ho ha hbase hfew hline hs hplain
theorem ae_indexB (ho : AE X E o wo) (ha : AA X E [e] wl) (hbase : attributeBase o "index" X.env (eval o X.env) = eval o X.env := by rfl)
    (hfew : ((backTo cpos (starEach [e] X.env)).all (fun x => !x.1) && (backToKw cpos (keywordEach [] X.env)).all (fun x => x.1.isSome) && decide ([e].length + ([] : List Keyword).length + (if ([] : List Keyword).isEmpty then 0 else 1) < 30)) = true := by rfl)
    (hline : (apos.endLine == cpos.line) = true := by rfl) (hs : starEach [e] X.env = (false, eval e X.env) :: starEach [] X.env := by rfl) (hplain : (backTo cpos (starEach [] X.env)).any (·.1) = false := by rfl) :
    AE X E (.Call (.Attribute o "index" apos) [e] [] cpos) (wMethT isL dIndexB wo wl) :=
  ae_bm dIndexB_ok mt_index PySem.F.plainAttrs_list PySem.F.slot_list_index PySem.F.type_list_index ho ha hbase hfew hline hs hplain
end
/-! ### list(range(n)) -/
end DL
namespace PR
open PySem PySem.Spec L2 C8 DL PK PL
/-! ### late buffers -/
end PR
namespace PR
open PySem PySem.Spec L2 C8 DL PK PL
/-! ### the readings -/
end PR
namespace PR
open PySem PySem.Spec L2 C8 DL PK PL
end PR
/-! instances called by keywords -/
namespace DL
open PySem PySem.Spec L2 C8
end DL
/-! repr of things with {} within -/
namespace PK
open PySem PySem.Spec L2 C8 DL
/-! how long the text of a thing may be -/
/-- what repr of a thing asks -/
structure Rq (x : D) (k n : Nat) : Prop where
  da : dq x = true
  sh : (pq x).showable = true
  de : (pq x).depth ≤ k
  le : (pq x).shown.length ≤ n
/-! things may be shown -/
theorem Rq.up {x : D} {k n l m : Nat} (r : Rq x k n) (h1 : k ≤ l) (h2 : n ≤ m) : Rq x l m := ⟨r.da, r.sh, Nat.le_trans r.de h1, Nat.le_trans r.le h2⟩
end PK
namespace K26
open PySem PySem.Spec L2 C8 DL PK PL PQ PN PB F4 PR
abbrev N_is_row : List Str := ["value"]
abbrev N_Ledger___init__ : List Str := ["self", "rows", "found", "index", "row", "offset"]
abbrev N_Ledger_rows : List Str := ["self"]
abbrev N_Ledger_greatest : List Str := ["self"]
abbrev N_Ledger___len__ : List Str := ["self"]
abbrev N_Ledger___add__ : List Str := ["self", "other", "some"]
abbrev N_Ledger___eq__ : List Str := ["self", "other"]
abbrev N__law_pen : List Str := ["_law_script"]
abbrev N__law_draw : List Str := ["_law_pen_here", "_law_many", "_law_digit", "_law_at", "_law_cell", "_law_great", "_law_mixed"]
abbrev N__law_word : List Str := ["_law_it", "_law_some", "_law_at", "_law_bases", "_law_words"]
abbrev N__law_field : List Str := ["_law_word_here", "_law_it"]
abbrev N__law_more_field : List Str := ["_law_word_here", "_law_it"]
abbrev N__law_heard : List Str := ["_law_ask", "_law_it", "error", "_law_word_here"]
abbrev N__law_offset : List Str := ["_law_pen_here"]
abbrev N__law_amount : List Str := ["_law_pen_here", "_law_some"]
abbrev N__law_rows : List Str := ["_law_pen_here", "_law_most", "_law_found", "_law_k", "_law_row"]
abbrev N__law_sums : List Str := ["_law_rows_here", "_law_found", "_law_spot", "_law_amount_here"]
abbrev N__law_ledger : List Str := ["_law_rows_here"]
abbrev N_law : List Str := ["_law_script", "_law_pen_here", "_law_turn", "_law_one", "_law_other", "_law_made", "_law_more", "_law_number", "_law_less", "_law_due_here", "_law_told", "_law_spot", "_law_amount_here", "_law_one_told"]
def errs (z : Ad) : List Addr := [z.InvalidCapacity, z.TooLong]
def xtab (z : Ad) : XTab := [(z.InvalidCapacity, .ref z.AbsentError, false), (z.InvalidCapacity, .ref z.Contradiction, false), (z.InvalidCapacity, .ref z.DifferentModes, false), (z.InvalidCapacity, .ref z.EchoError, true), (z.InvalidCapacity, .ref z.Finished, false), (z.InvalidCapacity, .ref z.Full, false), (z.InvalidCapacity, .ref z.InvalidAccount, false), (z.InvalidCapacity, .ref z.InvalidBound, false), (z.InvalidCapacity, .ref z.InvalidCapacity, true), (z.InvalidCapacity, .ref z.InvalidMode, false), (z.InvalidCapacity, .ref z.InvalidNumber, false), (z.InvalidCapacity, .ref z.InvalidProgram, false), (z.InvalidCapacity, .ref z.InvalidReading, false), (z.InvalidCapacity, .ref z.InvalidRow, false), (z.InvalidCapacity, .ref z.InvalidTable, false), (z.InvalidCapacity, .ref z.InvalidText, false), (z.InvalidCapacity, .ty "LookupError", false), (z.InvalidCapacity, .ref z.Lossy, false), (z.InvalidCapacity, .ref z.NoName, false), (z.InvalidCapacity, .ref z.NoPlace, false), (z.InvalidCapacity, .ref z.NoPoint, false), (z.InvalidCapacity, .ref z.NoReading, false), (z.InvalidCapacity, .ref z.NothingToUndo, false), (z.InvalidCapacity, .ty "OverflowError", false), (z.InvalidCapacity, .ref z.SizeError, false), (z.InvalidCapacity, .ref z.TooLarge, false), (z.InvalidCapacity, .ref z.TooLong, false), (z.InvalidCapacity, .ref z.TooManyProcesses, false), (z.InvalidCapacity, .ref z.UnknownCommand, false), (z.InvalidCapacity, .ty "ValueError", true), (z.TooLong, .ref z.AbsentError, false), (z.TooLong, .ref z.Contradiction, false), (z.TooLong, .ref z.DifferentModes, false), (z.TooLong, .ref z.EchoError, false), (z.TooLong, .ref z.Finished, false), (z.TooLong, .ref z.Full, false), (z.TooLong, .ref z.InvalidAccount, false), (z.TooLong, .ref z.InvalidBound, false), (z.TooLong, .ref z.InvalidCapacity, false), (z.TooLong, .ref z.InvalidMode, false), (z.TooLong, .ref z.InvalidNumber, false), (z.TooLong, .ref z.InvalidProgram, false), (z.TooLong, .ref z.InvalidReading, false), (z.TooLong, .ref z.InvalidRow, false), (z.TooLong, .ref z.InvalidTable, false), (z.TooLong, .ref z.InvalidText, false), (z.TooLong, .ty "LookupError", false), (z.TooLong, .ref z.Lossy, false), (z.TooLong, .ref z.NoName, false), (z.TooLong, .ref z.NoPlace, false), (z.TooLong, .ref z.NoPoint, false), (z.TooLong, .ref z.NoReading, false), (z.TooLong, .ref z.NothingToUndo, false), (z.TooLong, .ty "OverflowError", true), (z.TooLong, .ref z.SizeError, true), (z.TooLong, .ref z.TooLarge, false), (z.TooLong, .ref z.TooLong, true), (z.TooLong, .ref z.TooManyProcesses, false), (z.TooLong, .ref z.UnknownCommand, false), (z.TooLong, .ty "ValueError", false)]
/-- the tables of the defs that make lambdas -/
def Tb (z : Ad) (h : AH) : Prop := h z.t0 = some (.tab (("_law_called_right" : Str) ++ ".<locals>." ++ "<lambda>")) ∧ h z.t1 = some (.tab (("_law_moved_right" : Str) ++ ".<locals>." ++ "<lambda>"))
/-- rows as the law draws them -/
structure Rws (rows : Prs) : Prop where
  inr : InR rows
  len : rows.length ≤ 6
  sm : ∀ e ∈ rows, e.2.natAbs < 2 ^ 100
def S_Ledger___mul__ (z : Ad) : FSpec := fun ds h Q _ => ∃ (es : Prs) (n : Int), ds = [ledD z.Ledger es, .int n] ∧ InR es ∧ es.length ≤ 10000 ∧ (∀ e ∈ es, MulOk e.2 n) ∧
  ∀ gs, Led gs (fun k => amt es k * n) → InR gs → gs.length ≤ es.length → Q (ledD z.Ledger gs) h
abbrev S_Ledger___neg__ (z : Ad) : FSpec := PQ.S_Ledger___neg__ z
abbrev S_Ledger___sub__ (z : Ad) : FSpec := PQ.S_Ledger___sub__ z
/-- the word of an error, and what it holds -/
inductive Wrd (z : Ad) : Addr → List (Str × D) → Str → D → Prop where
  | cap (v : D) : Wrd z z.InvalidCapacity [("value", v)] "capacity" v
  | long (v : D) : Wrd z z.TooLong [("length", v)] "long" v
def S__law_word (z : Ad) : FSpec := fun ds h Q _ => ∃ C fs w v, ds = [.xob C fs] ∧ Wrd z C fs w v ∧ Q (.str w) h
def S__law_field (z : Ad) : FSpec := fun ds h Q _ => ∃ C fs w v, ds = [.str w, .xob C fs] ∧ Wrd z C fs w v ∧ Q (.lst [v]) h
def S__law_more_field (z : Ad) : FSpec := fun ds _ _ _ => ds.length = 2 ∧ False
def S__law_heard (z : Ad) : HSpec := fun tl h Q _ => tl h (fun d h' => Q (.lst [d]) h') (fun x h' => ∃ C fs w v, x = .own C fs ∧ Wrd z C fs w v ∧ Q (.tup [.str w, v]) h')
def S__law_offset (z : Ad) : FSpec := fun ds h Q _ => ∃ (n : Int) (p : Addr), ds = [.ref p] ∧ PenAt n h p ∧ n < 900000 ∧ ∀ v o, 0 ≤ v → v ≤ 1000000 → PenO (n + 4) o → Q (.int v) (up h p o)
def S__law_amount (z : Ad) : FSpec := fun ds h Q _ => ∃ (n : Int) (p : Addr), ds = [.ref p] ∧ PenAt n h p ∧ n < 900000 ∧ ∀ (v : Int) o, v.natAbs < 2 ^ 100 → PenO (n + 4) o → Q (.int v) (up h p o)
def S__law_rows (z : Ad) : FSpec := fun ds h Q _ => ∃ (n : Int) (p : Addr), ds = [.ref p, .int 6] ∧ PenAt n h p ∧ n < 800000 ∧ ∀ rows o, Rws rows → PenO (n + 60) o → Q (.lst (rows.map pairD)) (up h p o)
def S__law_sums (z : Ad) : FSpec := fun ds h Q _ => ∃ rows : Prs, ds = [.lst (rows.map pairD)] ∧ rows.length ≤ 1000 ∧ ∀ es, Led es (amt rows) → es.length ≤ rows.length → Q (.tup (es.map pairD)) h
def S__law_ledger (z : Ad) : FSpec := fun ds h Q _ => ∃ rows : Prs, ds = [.lst (rows.map pairD)] ∧ InR rows ∧ rows.length ≤ 6 ∧ ∀ gs, Led gs (amt rows) → InR gs → gs.length ≤ rows.length → Q (ledD z.Ledger gs) h
def S__law_moved_right (z : Ad) : FSpec := fun ds h Q _ => ∃ (n : Int) (p : Addr) (es : Prs), ds = [.ref p, ledD z.Ledger es, .tup (es.map pairD)] ∧ Tb z h ∧ PenAt n h p ∧ n < 900000 ∧ Std es ∧ InR es ∧ es.length ≤ 6 ∧ (∀ e ∈ es, e.2.natAbs < 2 ^ 200) ∧ ∀ o, PenO (n + 20) o → Q (.bl true) (up h p o)
def S__law_from_right (z : Ad) : FSpec := fun ds h Q _ => ∃ (n : Int) (p : Addr) (es : Prs), ds = [.ref p, ledD z.Ledger es, .tup (es.map pairD)] ∧ PenAt n h p ∧ n < 900000 ∧ InR es ∧ es.length ≤ 6 ∧ (∀ e ∈ es, e.2.natAbs < 2 ^ 200) ∧ ∀ o, PenO (n + 1) o → Q (.bl true) (up h p o)
def S__law_called_right (z : Ad) : FSpec := fun ds h Q _ => ∃ (n : Int) (p : Addr) (one other : Prs), ds = [.ref p, .lst (one.map pairD), .lst (other.map pairD)] ∧ Tb z h ∧ PenAt n h p ∧ n < 800000 ∧ Rws one ∧ Rws other ∧ ∀ o, PenO (n + 60) o → Q (.bl true) (up h p o)
def S_law (z : Ad) : FSpec := fun ds h Q _ => ∃ js : List Int, ds = [.lk (js.map D.int)] ∧ Tb z h ∧ ∀ h', Q (.bl true) h'
/-! ### the readings -/
def w__law_word (z : Ad) : WS := (wSeq (wAsg (wLst false (wCons (wB (dIsX (xtab z)) (wCons (wVar 0) (wCons (wC (.ref z.InvalidMode)) wNil))) (wCons (wB (dIsX (xtab z)) (wCons (wVar 0) (wCons (wC (.ref z.InvalidNumber)) wNil))) (wCons (wB (dIsX (xtab z)) (wCons (wVar 0) (wCons (wC (.ref z.InvalidCapacity)) wNil))) wNil)))) (gN 1))
  (wSeq (wAsg (wOp (dAdd false) (wVar 1) (wLst false (wCons (wB (dIsX (xtab z)) (wCons (wVar 0) (wCons (wC (.ref z.InvalidReading)) wNil))) (wCons (wB (dIsX (xtab z)) (wCons (wVar 0) (wCons (wC (.ref z.InvalidBound)) wNil))) (wCons (wB (dIsX (xtab z)) (wCons (wVar 0) (wCons (wC (.ref z.InvalidProgram)) wNil))) wNil))))) (gN 1))
  (wSeq (wAsg (wOp (dAdd false) (wVar 1) (wLst false (wCons (wB (dIsX (xtab z)) (wCons (wVar 0) (wCons (wC (.ref z.InvalidRow)) wNil))) (wCons (wB (dIsX (xtab z)) (wCons (wVar 0) (wCons (wC (.ref z.InvalidTable)) wNil))) (wCons (wB (dIsX (xtab z)) (wCons (wVar 0) (wCons (wC (.ref z.InvalidAccount)) wNil))) wNil))))) (gN 1))
  (wSeq (wAsg (wOp (dAdd false) (wVar 1) (wLst false (wCons (wB (dIsX (xtab z)) (wCons (wVar 0) (wCons (wC (.ref z.InvalidText)) wNil))) (wCons (wB (dIsX (xtab z)) (wCons (wVar 0) (wCons (wC (.ref z.Lossy)) wNil))) (wCons (wB (dIsX (xtab z)) (wCons (wVar 0) (wCons (wC (.ref z.DifferentModes)) wNil))) wNil))))) (gN 1))
  (wSeq (wAsg (wOp (dAdd false) (wVar 1) (wLst false (wCons (wB (dIsX (xtab z)) (wCons (wVar 0) (wCons (wC (.ref z.Contradiction)) wNil))) (wCons (wB (dIsX (xtab z)) (wCons (wVar 0) (wCons (wC (.ref z.UnknownCommand)) wNil))) (wCons (wB (dIsX (xtab z)) (wCons (wVar 0) (wCons (wC (.ref z.TooLarge)) wNil))) wNil))))) (gN 1))
  (wSeq (wAsg (wOp (dAdd false) (wVar 1) (wLst false (wCons (wB (dIsX (xtab z)) (wCons (wVar 0) (wCons (wC (.ref z.TooLong)) wNil))) (wCons (wB (dIsX (xtab z)) (wCons (wVar 0) (wCons (wC (.ref z.TooManyProcesses)) wNil))) (wCons (wB (dIsX (xtab z)) (wCons (wVar 0) (wCons (wC (.ref z.Full)) wNil))) wNil))))) (gN 1))
  (wSeq (wAsg (wOp (dAdd false) (wVar 1) (wLst false (wCons (wB (dIsX (xtab z)) (wCons (wVar 0) (wCons (wC (.ref z.NoPlace)) wNil))) (wCons (wB (dIsX (xtab z)) (wCons (wVar 0) (wCons (wC (.ref z.NoPoint)) wNil))) (wCons (wB (dIsX (xtab z)) (wCons (wVar 0) (wCons (wC (.ref z.NoReading)) wNil))) wNil))))) (gN 1))
  (wSeq (wAsg (wOp (dAdd false) (wVar 1) (wLst false (wCons (wB (dIsX (xtab z)) (wCons (wVar 0) (wCons (wC (.ref z.NoName)) wNil))) (wCons (wB (dIsX (xtab z)) (wCons (wVar 0) (wCons (wC (.ref z.NothingToUndo)) wNil))) (wCons (wB (dIsX (xtab z)) (wCons (wVar 0) (wCons (wC (.ref z.Finished)) wNil))) wNil))))) (gN 1))
  (wSeq (wIfS (wTest (wOp (dEq fun b => !b) (wMethT isL dCountB (wVar 1) (wCons (wC (.bl true)) wNil)) (wC (.int 1)))) (wRet (wC (.str "odd"))) wSkip)
  (wSeq (wAsg (wMethT isL dIndexB (wVar 1) (wCons (wC (.bl true)) wNil)) (gN 2))
  (wSeq (wAsg (wLst true (wCons (wB (dIsX (xtab z)) (wCons (wVar 0) (wCons (wC (.ref z.EchoError)) wNil))) (wCons (wB (dIsX (xtab z)) (wCons (wVar 0) (wCons (wC (.ref z.SizeError)) wNil))) (wCons (wB (dIsX (xtab z)) (wCons (wVar 0) (wCons (wC (.ref z.AbsentError)) wNil))) wNil)))) (gN 3))
  (wSeq (wExpr (wMethT isL dAppend (wVar 3) (wCons (wOp dIx (wLst false (wCons (wB (dIsX (xtab z)) (wCons (wVar 0) (wCons (wC (.ty "ValueError")) wNil))) (wCons (wB (dIsX (xtab z)) (wCons (wVar 0) (wCons (wC (.ty "OverflowError")) wNil))) (wCons (wB (dIsX (xtab z)) (wCons (wVar 0) (wCons (wC (.ty "LookupError")) wNil))) wNil)))) (wOp (dAdd false) (wB dInt (wCons (wOp (dCmpI fun i j => decide (j < i)) (wVar 2) (wC (.int 13))) wNil)) (wB dInt (wCons (wOp (dCmpI fun i j => decide (j < i)) (wVar 2) (wC (.int 17))) wNil)))) wNil)))
  (wSeq (wAsg (wLst false (wCons (wC (.str "mode")) (wCons (wC (.str "number")) (wCons (wC (.str "capacity")) (wCons (wC (.str "reading")) (wCons (wC (.str "bound")) (wCons (wC (.str "program")) (wCons (wC (.str "row")) (wCons (wC (.str "table")) (wCons (wC (.str "account")) (wCons (wC (.str "text")) (wCons (wC (.str "lossy")) wNil)))))))))))) (gN 4))
  (wSeq (wAsg (wOp (dAdd false) (wVar 4) (wLst false (wCons (wC (.str "modes")) (wCons (wC (.str "against")) (wCons (wC (.str "command")) (wCons (wC (.str "large")) (wCons (wC (.str "long")) (wCons (wC (.str "processes")) (wCons (wC (.str "full")) (wCons (wC (.str "place")) (wCons (wC (.str "point")) (wCons (wC (.str "unread")) wNil)))))))))))) (gN 4))
  (wSeq (wAsg (wOp (dAdd false) (wVar 4) (wLst false (wCons (wC (.str "name")) (wCons (wC (.str "undo")) (wCons (wC (.str "finished")) wNil))))) (gN 4))
  (wRet (wIf (wTest (wOp (dEq fun b => b) (wVar 3) (wLst false (wCons (wOp (dCmpI fun i j => decide (i < j)) (wVar 2) (wC (.int 14))) (wCons (wChain (dCmpI fun i j => decide (i < j)) (dCmpI fun i j => decide (i < j)) (wC (.int 13)) (wVar 2) (wC (.int 18))) (wCons (wOp (dCmpI fun i j => decide (j < i)) (wVar 2) (wC (.int 17))) (wCons (wC (.bl true)) wNil))))))) (wOp dIx (wVar 4) (wVar 2)) (wC (.str "odd")))))))))))))))))))
def w__law_field (z : Ad) : WS := (wSeq (wIfS (wTest (wOp (dIn false) (wVar 0) (wTup (wCons (wC (.str "mode")) (wCons (wC (.str "number")) (wCons (wC (.str "capacity")) (wCons (wC (.str "reading")) (wCons (wC (.str "bound")) wNil)))))))) (wRet (wLst false (wCons (wXFld [z.InvalidCapacity] "value" (wVar 1)) wNil))) wSkip)
  (wSeq (wIfS (wTest (wOp (dIn false) (wVar 0) (wTup (wCons (wC (.str "program")) (wCons (wC (.str "place")) wNil))))) (wRet (wLst false (wCons (wXFld [] "place" (wVar 1)) wNil))) wSkip)
  (wSeq (wIfS (wTest (wOp (dIn false) (wVar 0) (wTup (wCons (wC (.str "row")) (wCons (wC (.str "table")) wNil))))) (wRet (wLst false (wCons (wXFld [] "index" (wVar 1)) wNil))) wSkip)
  (wSeq (wIfS (wTest (wOp (dIn false) (wVar 0) (wTup (wCons (wC (.str "lossy")) (wCons (wC (.str "point")) wNil))))) (wRet (wLst false (wCons (wXFld [] "point" (wVar 1)) wNil))) wSkip)
  (wSeq (wIfS (wTest (wOp (dEq fun b => b) (wVar 0) (wC (.str "text")))) (wRet (wLst false (wCons (wXFld [] "line" (wVar 1)) (wCons (wXFld [] "word" (wVar 1)) wNil)))) wSkip)
  (wSeq (wIfS (wTest (wOp (dEq fun b => b) (wVar 0) (wC (.str "against")))) (wRet (wLst false (wCons (wXFld [] "first" (wVar 1)) (wCons (wXFld [] "second" (wVar 1)) wNil)))) wSkip)
  (wSeq (wIfS (wTest (wOp (dEq fun b => b) (wVar 0) (wC (.str "command")))) (wRet (wLst false (wCons (wXFld [] "command" (wVar 1)) wNil))) wSkip)
  (wSeq (wIfS (wTest (wOp (dEq fun b => b) (wVar 0) (wC (.str "large")))) (wRet (wLst false (wCons (wXFld [] "points" (wVar 1)) wNil))) wSkip)
  (wSeq (wIfS (wTest (wOp (dEq fun b => b) (wVar 0) (wC (.str "long")))) (wRet (wLst false (wCons (wXFld [z.TooLong] "length" (wVar 1)) wNil))) wSkip)
  (wRet (wCallP (S__law_more_field z) 2 (fun ds _ => ds) (wCons (wVar 0) (wCons (wVar 1) wNil)))))))))))))
def w__law_more_field (z : Ad) : WS := (wSeq (wIfS (wTest (wOp (dEq fun b => b) (wVar 0) (wC (.str "processes")))) (wRet (wLst false (wCons (wXFld [] "number" (wVar 1)) wNil))) wSkip)
  (wSeq (wIfS (wTest (wOp (dEq fun b => b) (wVar 0) (wC (.str "full")))) (wRet (wLst false (wCons (wXFld [] "limit" (wVar 1)) wNil))) wSkip)
  (wSeq (wIfS (wTest (wOp (dEq fun b => b) (wVar 0) (wC (.str "unread")))) (wRet (wLst false (wCons (wXFld [] "asked" (wVar 1)) wNil))) wSkip)
  (wSeq (wIfS (wTest (wOp (dEq fun b => b) (wVar 0) (wC (.str "name")))) (wRet (wLst false (wCons (wXFld [] "name" (wVar 1)) wNil))) wSkip)
  (wRet (wIf (wTest (wOp (dEq fun b => b) (wVar 0) (wC (.str "undo")))) (wLst false (wCons (wXFld [] "count" (wVar 1)) wNil)) (wLst false wNil)))))))
def w__law_heard (z : Ad) (d : D) (tl : Thk) : WS := (wSeq (wAsg (wC .non) (gN 1))
  (wSeq (wTry (errs z) 4 1 (wRet (wLst false (wCons (wAct 0 d tl) wNil))))
  (wSeq (wAsg (wCallP (S__law_word z) 1 (fun ds _ => ds) (wCons (wVar 1) wNil)) (gN 3))
  (wRet (wB dTupOf (wCons (wOp (dAdd false) (wLst false (wCons (wVar 3) wNil)) (wCallP (S__law_field z) 2 (fun ds _ => ds) (wCons (wVar 3) (wCons (wVar 1) wNil)))) wNil))))))
def w__law_offset (z : Ad) : WS := (wRet (wOp dIx (wLst false (wCons (wCallP (F4.S__law_draw z) 2 (fun ds _ => ds) (wCons (wVar 0) (wCons (wC (.int 3)) wNil))) (wCons (wCallP (F4.S__law_draw z) 2 (fun ds _ => ds) (wCons (wVar 0) (wCons (wC (.int 40)) wNil))) (wCons (wOp dSub (wOp dPow (wC (.int 10)) (wC (.int 6))) (wCallP (F4.S__law_draw z) 2 (fun ds _ => ds) (wCons (wVar 0) (wCons (wC (.int 3)) wNil)))) (wCons (wC (.int 2520)) wNil))))) (wCallP (F4.S__law_draw z) 2 (fun ds _ => ds) (wCons (wVar 0) (wCons (wC (.int 4)) wNil)))))
def w__law_amount (z : Ad) : WS := (wSeq (wAsg (wLst false (wCons (wOp dSub (wCallP (F4.S__law_draw z) 2 (fun ds _ => ds) (wCons (wVar 0) (wCons (wC (.int 7)) wNil))) (wC (.int 3))) (wCons (wOp dSub (wOp dPow (wC (.int 10)) (wC (.int 30))) (wCallP (F4.S__law_draw z) 2 (fun ds _ => ds) (wCons (wVar 0) (wCons (wC (.int 5)) wNil)))) (wCons (wOp dSub (wC (.int 0)) (wOp (dMul false) (wOp dPow (wC (.int 2)) (wC (.int 45))) (wOp dPow (wC (.int 2)) (wC (.int 45))))) (wCons (wOp dIx (wLst false (wCons (wC (.int 1)) (wCons (wNeg (wC (.int 1))) wNil))) (wCallP (F4.S__law_draw z) 2 (fun ds _ => ds) (wCons (wVar 0) (wCons (wC (.int 2)) wNil)))) wNil))))) (gN 1))
  (wRet (wOp dIx (wVar 1) (wOp dIx (wLst false (wCons (wC (.int 0)) (wCons (wC (.int 0)) (wCons (wC (.int 3)) (wCons (wC (.int 3)) (wCons (wC (.int 1)) (wCons (wC (.int 2)) wNil))))))) (wCallP (F4.S__law_draw z) 2 (fun ds _ => ds) (wCons (wVar 0) (wCons (wC (.int 6)) wNil)))))))
def w__law_rows (z : Ad) : WS := (wSeq (wAsg (wLst true wNil) (gN 2))
  (wSeq (wFor (iRng1 (wCons (wCallP (F4.S__law_draw z) 2 (fun ds _ => ds) (wCons (wVar 0) (wCons (wOp (dAdd false) (wVar 1) (wC (.int 1))) wNil))) wNil)) (gN 3) (wSeq (wAsg (wTup (wCons (wCallP (S__law_offset z) 1 (fun ds _ => ds) (wCons (wVar 0) wNil)) (wCons (wCallP (S__law_amount z) 1 (fun ds _ => ds) (wCons (wVar 0) wNil)) wNil))) (gN 4))
  (wSeq (wIfS (wAnd (wTest (wOp (dEq fun b => !b) (wVar 2) (wLst false wNil))) (wTest (wOp (dEq fun b => b) (wCallP (F4.S__law_draw z) 2 (fun ds _ => ds) (wCons (wVar 0) (wCons (wC (.int 4)) wNil))) (wC (.int 0))))) (wAsg (wTup (wCons (wOp dIx (wOp dIx (wVar 2) (wNeg (wC (.int 1)))) (wC (.int 0))) (wCons (wOp dSub (wC (.int 0)) (wOp dIx (wOp dIx (wVar 2) (wNeg (wC (.int 1)))) (wC (.int 1)))) wNil))) (gN 4)) wSkip)
  (wExpr (wMethT isL dAppend (wVar 2) (wCons (wVar 4) wNil))))))
  (wRet (wVar 2))))
def w__law_sums (z : Ad) : WS := (wSeq (wAsg wDnew (gN 1))
  (wSeq (wFor (iSeq (wVar 0)) (gT 2 (gsCons (gN 2) (gsCons (gN 3) gsNil))) (wDput (wVar 1) (wVar 2) (wOp (dAdd false) (wGet2 (wVar 1) (wVar 2) (wC (.int 0))) (wVar 3))))
  (wRet (wB dTupOf (wCons (wLc false (iSeq (wB (dSortD false) (wCons (wVar 1) wNil))) (gN 2) (wTest (wOp (dEq fun b => !b) (wDGet (wVar 1) (wVar 2)) (wC (.int 0)))) (wTup (wCons (wVar 2) (wCons (wDGet (wVar 1) (wVar 2)) wNil))) [2]) wNil)))))
def w__law_ledger (z : Ad) : WS := (wSeq (wIfS (wTest (wOp (dCmpI fun i j => decide (i < j)) (wB dLen (wCons (wVar 0) wNil)) (wC (.int 2)))) (wRet (wIf (wTest (wOp (dEq fun b => !b) (wVar 0) (wLst false wNil))) (wMake z.Ledger (starS 1 (PL.S_Ledger___init__ z)) (wCons (wOp dIx (wVar 0) (wC (.int 0))) wNil)) (wMake z.Ledger (starS 1 (PL.S_Ledger___init__ z)) wNil))) wSkip)
  (wSeq (wIfS (wTest (wOp (dEq fun b => b) (wB dLen (wCons (wVar 0) wNil)) (wC (.int 2)))) (wRet (wMake z.Ledger (starS 1 (PL.S_Ledger___init__ z)) (wCons (wOp dIx (wVar 0) (wC (.int 0))) (wCons (wOp dIx (wVar 0) (wC (.int 1))) wNil)))) wSkip)
  (wSeq (wIfS (wTest (wOp (dEq fun b => b) (wB dLen (wCons (wVar 0) wNil)) (wC (.int 3)))) (wRet (wMake z.Ledger (starS 1 (PL.S_Ledger___init__ z)) (wCons (wOp dIx (wVar 0) (wC (.int 0))) (wCons (wOp dIx (wVar 0) (wC (.int 1))) (wCons (wOp dIx (wVar 0) (wC (.int 2))) wNil))))) wSkip)
  (wSeq (wIfS (wTest (wOp (dEq fun b => b) (wB dLen (wCons (wVar 0) wNil)) (wC (.int 4)))) (wRet (wMake z.Ledger (starS 1 (PL.S_Ledger___init__ z)) (wCons (wOp dIx (wVar 0) (wC (.int 0))) (wCons (wOp dIx (wVar 0) (wC (.int 1))) (wCons (wOp dIx (wVar 0) (wC (.int 2))) (wCons (wOp dIx (wVar 0) (wC (.int 3))) wNil)))))) wSkip)
  (wSeq (wIfS (wTest (wOp (dEq fun b => b) (wB dLen (wCons (wVar 0) wNil)) (wC (.int 5)))) (wRet (wMake z.Ledger (starS 1 (PL.S_Ledger___init__ z)) (wCons (wOp dIx (wVar 0) (wC (.int 0))) (wCons (wOp dIx (wVar 0) (wC (.int 1))) (wCons (wOp dIx (wVar 0) (wC (.int 2))) (wCons (wOp dIx (wVar 0) (wC (.int 3))) (wCons (wOp dIx (wVar 0) (wC (.int 4))) wNil))))))) wSkip)
  (wRet (wMake z.Ledger (starS 1 (PL.S_Ledger___init__ z)) (wCons (wOp dIx (wVar 0) (wC (.int 0))) (wCons (wOp dIx (wVar 0) (wC (.int 1))) (wCons (wOp dIx (wVar 0) (wC (.int 2))) (wCons (wOp dIx (wVar 0) (wC (.int 3))) (wCons (wOp dIx (wVar 0) (wC (.int 4))) (wCons (wOp dIx (wVar 0) (wC (.int 5))) wNil)))))))))))))
def w_law (z : Ad) : WS := (wSeq (wAsg (wCallP (F4.S__law_pen z) 1 (fun ds _ => ds) (wCons (wVar 0) wNil)) (gN 1))
  (wSeq (wFor (iRng1 (wCons (wC (.int 4)) wNil)) (gN 2) (wSeq (wPar 3 4 (wCons (wCallP (S__law_rows z) 2 (fun ds _ => ds) (wCons (wVar 1) (wCons (wC (.int 6)) wNil))) (wCons (wCallP (S__law_rows z) 2 (fun ds _ => ds) (wCons (wVar 1) (wCons (wC (.int 6)) wNil))) wNil)))
  (wSeq (wIfS (wTest (wOp (dEq fun b => b) (wCallP (F4.S__law_draw z) 2 (fun ds _ => ds) (wCons (wVar 1) (wCons (wC (.int 3)) wNil))) (wC (.int 0)))) (wAsg (wLc false (iSeq (wVar 3)) (gT 2 (gsN [11, 12])) wYes (wTup (wCons (wVar 11) (wCons (wOp dSub (wC (.int 0)) (wVar 12)) wNil))) [11, 12]) (gN 4)) wSkip)
  (wSeq (wPar 5 6 (wCons (wCallP (S__law_ledger z) 1 (fun ds _ => ds) (wCons (wVar 3) wNil)) (wCons (wCallP (S__law_ledger z) 1 (fun ds _ => ds) (wCons (wVar 4) wNil)) wNil)))
  (wSeq (wAsg (wOp dIx (wLst false (wCons (wC (.int 0)) (wCons (wC (.int 1)) (wCons (wNeg (wC (.int 1))) (wCons (wOp dSub (wCallP (F4.S__law_draw z) 2 (fun ds _ => ds) (wCons (wVar 1) (wCons (wC (.int 21)) wNil))) (wC (.int 10))) (wCons (wOp dPow (wC (.int 10)) (wC (.int 20))) wNil)))))) (wCallP (F4.S__law_draw z) 2 (fun ds _ => ds) (wCons (wVar 1) (wCons (wC (.int 5)) wNil)))) (gN 7))
  (wSeq (wAsg (wLc false (iSeq (wVar 4)) (gT 2 (gsN [11, 12])) wYes (wTup (wCons (wVar 11) (wCons (wOp dSub (wC (.int 0)) (wVar 12)) wNil))) [11, 12]) (gN 8))
  (wSeq (wAsg (wLst true (wCons (wCallP (S__law_sums z) 1 (fun ds _ => ds) (wCons (wOp (dAdd false) (wVar 3) (wVar 4)) wNil)) (wCons (wCallP (S__law_sums z) 1 (fun ds _ => ds) (wCons (wOp (dAdd false) (wVar 3) (wVar 8)) wNil)) (wCons (wCallP (S__law_sums z) 1 (fun ds _ => ds) (wCons (wVar 8) wNil)) wNil)))) (gN 9))
  (wSeq (wExpr (wMethT isL dAppend (wVar 9) (wCons (wCallP (S__law_sums z) 1 (fun ds _ => ds) (wCons (wLc false (iSeq (wVar 3)) (gT 2 (gsN [11, 12])) wYes (wTup (wCons (wVar 11) (wCons (wOp (dMul false) (wVar 12) (wVar 7)) wNil))) [11, 12]) wNil)) wNil)))
  (wSeq (wAsg (wLst false (wCons (wOp (dOwn2 z.Ledger (PL.S_Ledger___add__ z)) (wVar 5) (wVar 6)) (wCons (wOp (dOwn2 z.Ledger (S_Ledger___sub__ z)) (wVar 5) (wVar 6)) (wCons (wNegO z.Ledger (S_Ledger___neg__ z) (wVar 6)) (wCons (wOp (dOwnI z.Ledger (S_Ledger___mul__ z)) (wVar 5) (wVar 7)) wNil))))) (gN 10))
  (wSeq (wIfS (wTest (wOp (dEq fun b => !b) (wB dRepr (wCons (wLc false (iSeq (wVar 10)) (gN 13) wYes (wProp z.Ledger (PL.S_Ledger_rows z) (wVar 13)) [13]) wNil)) (wB dRepr (wCons (wVar 9) wNil)))) (wRet (wC (.bl false))) wSkip)
  (wSeq (wIfS (wOr (wTest (wOp (dEq fun b => !b) (wProp z.Ledger (PL.S_Ledger_rows z) (wOp (dOwn2 z.Ledger (PL.S_Ledger___add__ z)) (wVar 6) (wVar 5))) (wOp dIx (wVar 9) (wC (.int 0))))) (wOr (wTest (wOp (dEq fun b => !b) (wProp z.Ledger (PL.S_Ledger_rows z) (wOp (dOwn2 z.Ledger (S_Ledger___sub__ z)) (wVar 5) (wVar 5))) (wTup wNil))) (wNot (wTest (wOp (dOwnC z.Ledger (PN.S_Ledger___eq__ z) fun b => b) (wOp (dOwn2 z.Ledger (PL.S_Ledger___add__ z)) (wVar 5) (wMake z.Ledger (starS 1 (PL.S_Ledger___init__ z)) wNil)) (wVar 5)))))) (wRet (wC (.bl false))) wSkip)
  (wSeq (wIfS (wOr (wNot (wTest (wCallP (S__law_moved_right z) 3 (fun ds _ => ds) (wCons (wVar 1) (wCons (wVar 5) (wCons (wCallP (S__law_sums z) 1 (fun ds _ => ds) (wCons (wVar 3) wNil)) wNil)))))) (wNot (wTest (wCallP (S__law_from_right z) 3 (fun ds _ => ds) (wCons (wVar 1) (wCons (wVar 5) (wCons (wCallP (S__law_sums z) 1 (fun ds _ => ds) (wCons (wVar 3) wNil)) wNil))))))) (wRet (wC (.bl false))) wSkip)
  (wSeq (wIfS (wNot (wTest (wCallP (S__law_called_right z) 3 (fun ds _ => ds) (wCons (wVar 1) (wCons (wVar 3) (wCons (wVar 4) wNil)))))) (wRet (wC (.bl false))) wSkip)
  (wIfS (wTest (wOp (dEq fun b => !b) (wB dRepr (wCons (wLst false (wCons (wProp z.Ledger (PL.S_Ledger_rows z) (wVar 5)) (wCons (wProp z.Ledger (PL.S_Ledger_rows z) (wVar 6)) wNil))) wNil)) (wB dRepr (wCons (wLst false (wCons (wCallP (S__law_sums z) 1 (fun ds _ => ds) (wCons (wVar 3) wNil)) (wCons (wCallP (S__law_sums z) 1 (fun ds _ => ds) (wCons (wVar 4) wNil)) wNil))) wNil)))) (wRet (wC (.bl false))) wSkip))))))))))))))
  (wRet (wC (.bl true)))))
theorem len__law_word (z : Ad) : ∀ ds h Q X, S__law_word z ds h Q X → ds.length = 1 := fun _ _ _ _ ⟨_, _, _, _, e, _⟩ => by rw [e]; rfl
theorem mo__law_word (z : Ad) : MoF (S__law_word z) := fun _ _ _ _ _ _ hq _ ⟨a, b, c, d, e, o1, q⟩ => ⟨a, b, c, d, e, o1, hq _ _ q⟩
theorem len__law_field (z : Ad) : ∀ ds h Q X, S__law_field z ds h Q X → ds.length = 2 := fun _ _ _ _ ⟨_, _, _, _, e, _⟩ => by rw [e]; rfl
theorem mo__law_field (z : Ad) : MoF (S__law_field z) := fun _ _ _ _ _ _ hq _ ⟨a, b, c, d, e, o1, q⟩ => ⟨a, b, c, d, e, o1, hq _ _ q⟩
theorem len__law_more_field (z : Ad) : ∀ ds h Q X, S__law_more_field z ds h Q X → ds.length = 2 := fun _ _ _ _ q => q.1
theorem mo__law_more_field (z : Ad) : MoF (S__law_more_field z) := fun _ _ _ _ _ _ _ _ q => q
theorem mo__law_heard (z : Ad) : MoH (S__law_heard z) := fun t mt h Q Q' X X' hq hx q => mt _ _ _ _ _ (fun _ h z => hq _ h z) (fun x h ⟨C, fs, w, v, e1, e2, z⟩ => ⟨C, fs, w, v, e1, e2, hq _ _ z⟩) q
theorem len__law_offset (z : Ad) : ∀ ds h Q X, S__law_offset z ds h Q X → ds.length = 1 := fun _ _ _ _ ⟨_, _, e, _⟩ => by rw [e]; rfl
theorem mo__law_offset (z : Ad) : MoF (S__law_offset z) := fun _ _ _ _ _ _ hq _ ⟨a, b, e, o1, o2, q⟩ => ⟨a, b, e, o1, o2, fun x y k1 k2 k3 => hq _ _ (q x y k1 k2 k3)⟩
theorem len__law_amount (z : Ad) : ∀ ds h Q X, S__law_amount z ds h Q X → ds.length = 1 := fun _ _ _ _ ⟨_, _, e, _⟩ => by rw [e]; rfl
theorem mo__law_amount (z : Ad) : MoF (S__law_amount z) := fun _ _ _ _ _ _ hq _ ⟨a, b, e, o1, o2, q⟩ => ⟨a, b, e, o1, o2, fun x y k1 k2 => hq _ _ (q x y k1 k2)⟩
theorem len__law_rows (z : Ad) : ∀ ds h Q X, S__law_rows z ds h Q X → ds.length = 2 := fun _ _ _ _ ⟨_, _, e, _⟩ => by rw [e]; rfl
theorem mo__law_rows (z : Ad) : MoF (S__law_rows z) := fun _ _ _ _ _ _ hq _ ⟨a, b, e, o1, o2, q⟩ => ⟨a, b, e, o1, o2, fun x y k1 k2 => hq _ _ (q x y k1 k2)⟩
theorem len__law_sums (z : Ad) : ∀ ds h Q X, S__law_sums z ds h Q X → ds.length = 1 := fun _ _ _ _ ⟨_, e, _⟩ => by rw [e]; rfl
theorem mo__law_sums (z : Ad) : MoF (S__law_sums z) := fun _ _ _ _ _ _ hq _ ⟨a, e, o1, q⟩ => ⟨a, e, o1, fun x k1 k2 => hq _ _ (q x k1 k2)⟩
theorem len__law_ledger (z : Ad) : ∀ ds h Q X, S__law_ledger z ds h Q X → ds.length = 1 := fun _ _ _ _ ⟨_, e, _⟩ => by rw [e]; rfl
theorem mo__law_ledger (z : Ad) : MoF (S__law_ledger z) := fun _ _ _ _ _ _ hq _ ⟨a, e, o1, o2, q⟩ => ⟨a, e, o1, o2, fun x k1 k2 k3 => hq _ _ (q x k1 k2 k3)⟩
theorem len_law (z : Ad) : ∀ ds h Q X, S_law z ds h Q X → ds.length = 1 := fun _ _ _ _ ⟨_, e, _⟩ => by rw [e]; rfl
theorem mo_law (z : Ad) : MoF (S_law z) := fun _ _ _ _ _ _ hq _ ⟨a, e, o, q⟩ => ⟨a, e, o, fun h' => hq _ _ (q h')⟩
theorem law_at (z : Ad) : ∀ (js : List Int) (h : AH), js.length ≤ 63 → Tb z h → S_law z [.lk (js.map D.int)] h (fun d _ => d = .bl true) (fun _ _ => False) := fun js h _ t => ⟨js, rfl, t, fun _ => rfl⟩
end K26
namespace K26
open PySem PySem.Spec L2 C8 DL PK PL PQ PN PB F4 PR
/-! ### the greatest offset -/
end K26
namespace K26
open PySem PySem.Spec L2 C8 DL PK PL PQ PN PB F4 PR
theorem isX_go {M : XTab} {C : Addr} {fs : List (Str × D)} {c : D} {b : Bool} {h : AH} {Q : KD} (hm : (C, c, b) ∈ M) (q : Q (.bl b) h) : dIsX M [.xob C fs, c] h Q := ⟨C, fs, c, b, rfl, hm, q⟩
theorem u_addLL {xs ys : List D} {h : AH} {Q : KD} : dAdd false (.lst xs) (.lst ys) h Q = ∃ xs' ys', lstOf h (.lst xs) = some xs' ∧ lstOf h (.lst ys) = some ys' ∧ xs'.length + ys'.length ≤ sizeLine ∧ newL false (xs' ++ ys') h Q := rfl
theorem addL_go {xs ys : List D} {h : AH} {Q : KD} (hl : xs.length + ys.length ≤ 100000) (q : Q (.lst (xs ++ ys)) h) : dAdd false (.lst xs) (.lst ys) h Q := by
  rw [u_addLL]
  exact ⟨xs, ys, rfl, rfl, sz_le hl, q⟩
theorem same_ref {f : Bool → Bool} {xs : List D} {h : AH} {Q : KD} {k : Nat} {a : Addr} (e : h a = some (.lst xs)) (r : Fl (.lst xs) k) (hk : k ≤ 64) (q : Q (.bl (f true)) h) : dEq f (.ref a) (.lst xs) h Q := by
  have c : cur h (.ref a) = .lst xs := by simp [cur, e]
  refine ⟨by rw [c]; exact r.da, r.da, by rw [c]; exact r.sh hk, r.sh hk, ?_⟩
  rw [c]
  show Q (.bl (f (PyData.eqv (pd (.lst xs)) (pd (.lst xs))))) h
  rw [r.eqv]; exact q
theorem fl_bls : ∀ (xs : List Bool), Fl (.lst (xs.map .bl)) 1 := fun xs => fl_lst (k := 0) fun x hx => by
  obtain ⟨b, _, rfl⟩ := List.mem_map.mp hx
  exact fl_bl b
theorem p__law_word (z : Ad) : ∀ ds h Q X, S__law_word z ds h Q X → w__law_word z (endsD Q X) (startD 5 ds) h := by
  rintro ds h Q X ⟨C, fs, w, v, rfl, hw, q⟩
  show w__law_word z (endsD Q X) [some (.xob C fs), none, none, none, none] h
  unfold w__law_word
  cases hw with
  | cap v =>
    try dsimp only [List.set_cons_zero, List.set_cons_succ]
    rw [u_seq]
    simp only [u_asg, u_gN, u_ret, u_retN, u_skip, u_expr, u_ifs, u_c, u_op, u_neg, u_test, u_and, u_or, u_not, u_if, u_nil, u_cons, u_tup, u_lst, u_callP, u_call, u_b, u_chain, u_andV, u_addI, u_subI, u_mulI, u_divI, u_modI, u_powI, u_cmpI, u_eqI, u_eqS, u_eqB, u_abs, u_intI, u_intB, u_newT, u_newF, u_isN, u_notN, wVar, List.set_cons_zero, List.set_cons_succ, List.getElem?_cons_zero, List.getElem?_cons_succ, List.length_cons, List.length_nil, u_lc, u_for, u_r1, u_r2, u_r3, u_num, u_notV, u_yes, u_w0, u_w1, u_dput, u_get2, u_dget, u_prop, u_fld, u_setF, u_make, u_makeS, u_met, u_calO, u_orT, u_tupIt, u_dc, u_maxDd, u_dnew, u_tupi, ix_p0, ix_p1, wSl, woNone, woSome]
    refine isX_go (b := false) (by simp [xtab])  (isX_go (b := false) (by simp [xtab])  (isX_go (b := true) (by simp [xtab])  ?_))
    refine ⟨sz_le (show 3 ≤ 100000 by decide), ?_⟩
    try dsimp only [List.cons_append, List.nil_append]
    try dsimp only [List.set_cons_zero, List.set_cons_succ]
    rw [u_seq]
    simp only [u_asg, u_gN, u_ret, u_retN, u_skip, u_expr, u_ifs, u_c, u_op, u_neg, u_test, u_and, u_or, u_not, u_if, u_nil, u_cons, u_tup, u_lst, u_callP, u_call, u_b, u_chain, u_andV, u_addI, u_subI, u_mulI, u_divI, u_modI, u_powI, u_cmpI, u_eqI, u_eqS, u_eqB, u_abs, u_intI, u_intB, u_newT, u_newF, u_isN, u_notN, wVar, List.set_cons_zero, List.set_cons_succ, List.getElem?_cons_zero, List.getElem?_cons_succ, List.length_cons, List.length_nil, u_lc, u_for, u_r1, u_r2, u_r3, u_num, u_notV, u_yes, u_w0, u_w1, u_dput, u_get2, u_dget, u_prop, u_fld, u_setF, u_make, u_makeS, u_met, u_calO, u_orT, u_tupIt, u_dc, u_maxDd, u_dnew, u_tupi, ix_p0, ix_p1, wSl, woNone, woSome]
    refine isX_go (b := false) (by simp [xtab])  (isX_go (b := false) (by simp [xtab])  (isX_go (b := false) (by simp [xtab])  ?_))
    refine ⟨sz_le (show 3 ≤ 100000 by decide), ?_⟩
    refine addL_go (by decide) ?_
    try dsimp only [List.cons_append, List.nil_append]
    try dsimp only [List.set_cons_zero, List.set_cons_succ]
    rw [u_seq]
    simp only [u_asg, u_gN, u_ret, u_retN, u_skip, u_expr, u_ifs, u_c, u_op, u_neg, u_test, u_and, u_or, u_not, u_if, u_nil, u_cons, u_tup, u_lst, u_callP, u_call, u_b, u_chain, u_andV, u_addI, u_subI, u_mulI, u_divI, u_modI, u_powI, u_cmpI, u_eqI, u_eqS, u_eqB, u_abs, u_intI, u_intB, u_newT, u_newF, u_isN, u_notN, wVar, List.set_cons_zero, List.set_cons_succ, List.getElem?_cons_zero, List.getElem?_cons_succ, List.length_cons, List.length_nil, u_lc, u_for, u_r1, u_r2, u_r3, u_num, u_notV, u_yes, u_w0, u_w1, u_dput, u_get2, u_dget, u_prop, u_fld, u_setF, u_make, u_makeS, u_met, u_calO, u_orT, u_tupIt, u_dc, u_maxDd, u_dnew, u_tupi, ix_p0, ix_p1, wSl, woNone, woSome]
    refine isX_go (b := false) (by simp [xtab])  (isX_go (b := false) (by simp [xtab])  (isX_go (b := false) (by simp [xtab])  ?_))
    refine ⟨sz_le (show 3 ≤ 100000 by decide), ?_⟩
    refine addL_go (by decide) ?_
    try dsimp only [List.cons_append, List.nil_append]
    try dsimp only [List.set_cons_zero, List.set_cons_succ]
    rw [u_seq]
    simp only [u_asg, u_gN, u_ret, u_retN, u_skip, u_expr, u_ifs, u_c, u_op, u_neg, u_test, u_and, u_or, u_not, u_if, u_nil, u_cons, u_tup, u_lst, u_callP, u_call, u_b, u_chain, u_andV, u_addI, u_subI, u_mulI, u_divI, u_modI, u_powI, u_cmpI, u_eqI, u_eqS, u_eqB, u_abs, u_intI, u_intB, u_newT, u_newF, u_isN, u_notN, wVar, List.set_cons_zero, List.set_cons_succ, List.getElem?_cons_zero, List.getElem?_cons_succ, List.length_cons, List.length_nil, u_lc, u_for, u_r1, u_r2, u_r3, u_num, u_notV, u_yes, u_w0, u_w1, u_dput, u_get2, u_dget, u_prop, u_fld, u_setF, u_make, u_makeS, u_met, u_calO, u_orT, u_tupIt, u_dc, u_maxDd, u_dnew, u_tupi, ix_p0, ix_p1, wSl, woNone, woSome]
    refine isX_go (b := false) (by simp [xtab])  (isX_go (b := false) (by simp [xtab])  (isX_go (b := false) (by simp [xtab])  ?_))
    refine ⟨sz_le (show 3 ≤ 100000 by decide), ?_⟩
    refine addL_go (by decide) ?_
    try dsimp only [List.cons_append, List.nil_append]
    try dsimp only [List.set_cons_zero, List.set_cons_succ]
    rw [u_seq]
    simp only [u_asg, u_gN, u_ret, u_retN, u_skip, u_expr, u_ifs, u_c, u_op, u_neg, u_test, u_and, u_or, u_not, u_if, u_nil, u_cons, u_tup, u_lst, u_callP, u_call, u_b, u_chain, u_andV, u_addI, u_subI, u_mulI, u_divI, u_modI, u_powI, u_cmpI, u_eqI, u_eqS, u_eqB, u_abs, u_intI, u_intB, u_newT, u_newF, u_isN, u_notN, wVar, List.set_cons_zero, List.set_cons_succ, List.getElem?_cons_zero, List.getElem?_cons_succ, List.length_cons, List.length_nil, u_lc, u_for, u_r1, u_r2, u_r3, u_num, u_notV, u_yes, u_w0, u_w1, u_dput, u_get2, u_dget, u_prop, u_fld, u_setF, u_make, u_makeS, u_met, u_calO, u_orT, u_tupIt, u_dc, u_maxDd, u_dnew, u_tupi, ix_p0, ix_p1, wSl, woNone, woSome]
    refine isX_go (b := false) (by simp [xtab])  (isX_go (b := false) (by simp [xtab])  (isX_go (b := false) (by simp [xtab])  ?_))
    refine ⟨sz_le (show 3 ≤ 100000 by decide), ?_⟩
    refine addL_go (by decide) ?_
    try dsimp only [List.cons_append, List.nil_append]
    try dsimp only [List.set_cons_zero, List.set_cons_succ]
    rw [u_seq]
    simp only [u_asg, u_gN, u_ret, u_retN, u_skip, u_expr, u_ifs, u_c, u_op, u_neg, u_test, u_and, u_or, u_not, u_if, u_nil, u_cons, u_tup, u_lst, u_callP, u_call, u_b, u_chain, u_andV, u_addI, u_subI, u_mulI, u_divI, u_modI, u_powI, u_cmpI, u_eqI, u_eqS, u_eqB, u_abs, u_intI, u_intB, u_newT, u_newF, u_isN, u_notN, wVar, List.set_cons_zero, List.set_cons_succ, List.getElem?_cons_zero, List.getElem?_cons_succ, List.length_cons, List.length_nil, u_lc, u_for, u_r1, u_r2, u_r3, u_num, u_notV, u_yes, u_w0, u_w1, u_dput, u_get2, u_dget, u_prop, u_fld, u_setF, u_make, u_makeS, u_met, u_calO, u_orT, u_tupIt, u_dc, u_maxDd, u_dnew, u_tupi, ix_p0, ix_p1, wSl, woNone, woSome]
    refine isX_go (b := false) (by simp [xtab])  (isX_go (b := false) (by simp [xtab])  (isX_go (b := false) (by simp [xtab])  ?_))
    refine ⟨sz_le (show 3 ≤ 100000 by decide), ?_⟩
    refine addL_go (by decide) ?_
    try dsimp only [List.cons_append, List.nil_append]
    try dsimp only [List.set_cons_zero, List.set_cons_succ]
    rw [u_seq]
    simp only [u_asg, u_gN, u_ret, u_retN, u_skip, u_expr, u_ifs, u_c, u_op, u_neg, u_test, u_and, u_or, u_not, u_if, u_nil, u_cons, u_tup, u_lst, u_callP, u_call, u_b, u_chain, u_andV, u_addI, u_subI, u_mulI, u_divI, u_modI, u_powI, u_cmpI, u_eqI, u_eqS, u_eqB, u_abs, u_intI, u_intB, u_newT, u_newF, u_isN, u_notN, wVar, List.set_cons_zero, List.set_cons_succ, List.getElem?_cons_zero, List.getElem?_cons_succ, List.length_cons, List.length_nil, u_lc, u_for, u_r1, u_r2, u_r3, u_num, u_notV, u_yes, u_w0, u_w1, u_dput, u_get2, u_dget, u_prop, u_fld, u_setF, u_make, u_makeS, u_met, u_calO, u_orT, u_tupIt, u_dc, u_maxDd, u_dnew, u_tupi, ix_p0, ix_p1, wSl, woNone, woSome]
    refine isX_go (b := false) (by simp [xtab])  (isX_go (b := false) (by simp [xtab])  (isX_go (b := false) (by simp [xtab])  ?_))
    refine ⟨sz_le (show 3 ≤ 100000 by decide), ?_⟩
    refine addL_go (by decide) ?_
    try dsimp only [List.cons_append, List.nil_append]
    try dsimp only [List.set_cons_zero, List.set_cons_succ]
    rw [u_seq]
    simp only [u_asg, u_gN, u_ret, u_retN, u_skip, u_expr, u_ifs, u_c, u_op, u_neg, u_test, u_and, u_or, u_not, u_if, u_nil, u_cons, u_tup, u_lst, u_callP, u_call, u_b, u_chain, u_andV, u_addI, u_subI, u_mulI, u_divI, u_modI, u_powI, u_cmpI, u_eqI, u_eqS, u_eqB, u_abs, u_intI, u_intB, u_newT, u_newF, u_isN, u_notN, wVar, List.set_cons_zero, List.set_cons_succ, List.getElem?_cons_zero, List.getElem?_cons_succ, List.length_cons, List.length_nil, u_lc, u_for, u_r1, u_r2, u_r3, u_num, u_notV, u_yes, u_w0, u_w1, u_dput, u_get2, u_dget, u_prop, u_fld, u_setF, u_make, u_makeS, u_met, u_calO, u_orT, u_tupIt, u_dc, u_maxDd, u_dnew, u_tupi, ix_p0, ix_p1, wSl, woNone, woSome]
    refine isX_go (b := false) (by simp [xtab])  (isX_go (b := false) (by simp [xtab])  (isX_go (b := false) (by simp [xtab])  ?_))
    refine ⟨sz_le (show 3 ≤ 100000 by decide), ?_⟩
    refine addL_go (by decide) ?_
    try dsimp only [List.cons_append, List.nil_append]
    try dsimp only [List.set_cons_zero, List.set_cons_succ]
    rw [u_seq]
    simp only [wMethT, u_asg, u_gN, u_ret, u_retN, u_skip, u_expr, u_ifs, u_c, u_op, u_neg, u_test, u_and, u_or, u_not, u_if, u_nil, u_cons, u_tup, u_lst, u_callP, u_call, u_b, u_chain, u_andV, u_addI, u_subI, u_mulI, u_divI, u_modI, u_powI, u_cmpI, u_eqI, u_eqS, u_eqB, u_abs, u_intI, u_intB, u_newT, u_newF, u_isN, u_notN, wVar, List.set_cons_zero, List.set_cons_succ, List.getElem?_cons_zero, List.getElem?_cons_succ, List.length_cons, List.length_nil, u_lc, u_for, u_r1, u_r2, u_r3, u_num, u_notV, u_yes, u_w0, u_w1, u_dput, u_get2, u_dget, u_prop, u_fld, u_setF, u_make, u_makeS, u_met, u_calO, u_orT, u_tupIt, u_dc, u_maxDd, u_dnew, u_tupi, ix_p0, ix_p1, wSl, woNone, woSome]
    refine ⟨⟨_, rfl⟩, [false, false, true, false, false, false, false, false, false, false, false, false, false, false, false, false, false, false, false, false, false, false, false, false], true, rfl, rfl, ?_⟩
    dsimp only
    rw [u_eqI, show (!decide (((([false, false, true, false, false, false, false, false, false, false, false, false, false, false, false, false, false, false, false, false, false, false, false, false] : List Bool).countP fun b => b == true : Nat) : Int) = 1)) = false from by decide]
    try dsimp only
    rw [if_neg (by decide)]
    try dsimp only [List.set_cons_zero, List.set_cons_succ]
    rw [u_seq]
    simp only [wMethT, u_asg, u_gN, u_ret, u_retN, u_skip, u_expr, u_ifs, u_c, u_op, u_neg, u_test, u_and, u_or, u_not, u_if, u_nil, u_cons, u_tup, u_lst, u_callP, u_call, u_b, u_chain, u_andV, u_addI, u_subI, u_mulI, u_divI, u_modI, u_powI, u_cmpI, u_eqI, u_eqS, u_eqB, u_abs, u_intI, u_intB, u_newT, u_newF, u_isN, u_notN, wVar, List.set_cons_zero, List.set_cons_succ, List.getElem?_cons_zero, List.getElem?_cons_succ, List.length_cons, List.length_nil, u_lc, u_for, u_r1, u_r2, u_r3, u_num, u_notV, u_yes, u_w0, u_w1, u_dput, u_get2, u_dget, u_prop, u_fld, u_setF, u_make, u_makeS, u_met, u_calO, u_orT, u_tupIt, u_dc, u_maxDd, u_dnew, u_tupi, ix_p0, ix_p1, wSl, woNone, woSome]
    refine ⟨⟨_, rfl⟩, [false, false, true, false, false, false, false, false, false, false, false, false, false, false, false, false, false, false, false, false, false, false, false, false], true, 2, rfl, rfl, rfl, ?_⟩
    try dsimp only [List.set_cons_zero, List.set_cons_succ]
    rw [u_seq]
    simp only [u_asg, u_gN, u_ret, u_retN, u_skip, u_expr, u_ifs, u_c, u_op, u_neg, u_test, u_and, u_or, u_not, u_if, u_nil, u_cons, u_tup, u_lst, u_callP, u_call, u_b, u_chain, u_andV, u_addI, u_subI, u_mulI, u_divI, u_modI, u_powI, u_cmpI, u_eqI, u_eqS, u_eqB, u_abs, u_intI, u_intB, u_newT, u_newF, u_isN, u_notN, wVar, List.set_cons_zero, List.set_cons_succ, List.getElem?_cons_zero, List.getElem?_cons_succ, List.length_cons, List.length_nil, u_lc, u_for, u_r1, u_r2, u_r3, u_num, u_notV, u_yes, u_w0, u_w1, u_dput, u_get2, u_dget, u_prop, u_fld, u_setF, u_make, u_makeS, u_met, u_calO, u_orT, u_tupIt, u_dc, u_maxDd, u_dnew, u_tupi, ix_p0, ix_p1, wSl, woNone, woSome]
    refine isX_go (b := true) (by simp [xtab])  (isX_go (b := false) (by simp [xtab])  (isX_go (b := false) (by simp [xtab])  ?_))
    refine ⟨sz_le (show 3 ≤ 100000 by decide), fun p1 hp1 => ?_⟩
    try dsimp only [List.set_cons_zero, List.set_cons_succ]
    rw [u_seq]
    simp only [wMethT, u_asg, u_gN, u_ret, u_retN, u_skip, u_expr, u_ifs, u_c, u_op, u_neg, u_test, u_and, u_or, u_not, u_if, u_nil, u_cons, u_tup, u_lst, u_callP, u_call, u_b, u_chain, u_andV, u_addI, u_subI, u_mulI, u_divI, u_modI, u_powI, u_cmpI, u_eqI, u_eqS, u_eqB, u_abs, u_intI, u_intB, u_newT, u_newF, u_isN, u_notN, wVar, List.set_cons_zero, List.set_cons_succ, List.getElem?_cons_zero, List.getElem?_cons_succ, List.length_cons, List.length_nil, u_lc, u_for, u_r1, u_r2, u_r3, u_num, u_notV, u_yes, u_w0, u_w1, u_dput, u_get2, u_dget, u_prop, u_fld, u_setF, u_make, u_makeS, u_met, u_calO, u_orT, u_tupIt, u_dc, u_maxDd, u_dnew, u_tupi, ix_p0, ix_p1, wSl, woNone, woSome]
    refine ⟨⟨_, lst_ref up_same⟩, isX_go (b := true) (by simp [xtab])  (isX_go (b := false) (by simp [xtab])  (isX_go (b := false) (by simp [xtab])  ?_))⟩
    refine ⟨sz_le (show 3 ≤ 100000 by decide), ?_⟩
    try simp only [u_asg, u_gN, u_ret, u_retN, u_skip, u_expr, u_ifs, u_c, u_op, u_neg, u_test, u_and, u_or, u_not, u_if, u_nil, u_cons, u_tup, u_lst, u_callP, u_call, u_b, u_chain, u_andV, u_addI, u_subI, u_mulI, u_divI, u_modI, u_powI, u_cmpI, u_eqI, u_eqS, u_eqB, u_abs, u_intI, u_intB, u_newT, u_newF, u_isN, u_notN, wVar, List.set_cons_zero, List.set_cons_succ, List.getElem?_cons_zero, List.getElem?_cons_succ, List.length_cons, List.length_nil, u_lc, u_for, u_r1, u_r2, u_r3, u_num, u_notV, u_yes, u_w0, u_w1, u_dput, u_get2, u_dget, u_prop, u_fld, u_setF, u_make, u_makeS, u_met, u_calO, u_orT, u_tupIt, u_dc, u_maxDd, u_dnew, u_tupi, ix_p0, ix_p1, wSl, woNone, woSome]
    rw [u_ixLd (show atI _ _ = some (D.bl true) from rfl)]
    refine ⟨p1, _, _, rfl, rfl, up_same, (Nat.lt_of_lt_of_le (show _ < 100000 by decide) DL.big_size), ?_⟩
    rw [up_up]
    try dsimp only [List.set_cons_zero, List.set_cons_succ]
    rw [u_seq]
    simp only [u_asg, u_gN, u_ret, u_retN, u_skip, u_expr, u_ifs, u_c, u_op, u_neg, u_test, u_and, u_or, u_not, u_if, u_nil, u_cons, u_tup, u_lst, u_callP, u_call, u_b, u_chain, u_andV, u_addI, u_subI, u_mulI, u_divI, u_modI, u_powI, u_cmpI, u_eqI, u_eqS, u_eqB, u_abs, u_intI, u_intB, u_newT, u_newF, u_isN, u_notN, wVar, List.set_cons_zero, List.set_cons_succ, List.getElem?_cons_zero, List.getElem?_cons_succ, List.length_cons, List.length_nil, u_lc, u_for, u_r1, u_r2, u_r3, u_num, u_notV, u_yes, u_w0, u_w1, u_dput, u_get2, u_dget, u_prop, u_fld, u_setF, u_make, u_makeS, u_met, u_calO, u_orT, u_tupIt, u_dc, u_maxDd, u_dnew, u_tupi, ix_p0, ix_p1, wSl, woNone, woSome]
    refine ⟨sz_le (show 11 ≤ 100000 by decide), ?_⟩
    try dsimp only [List.cons_append, List.nil_append]
    try dsimp only [List.set_cons_zero, List.set_cons_succ]
    rw [u_seq]
    simp only [u_asg, u_gN, u_ret, u_retN, u_skip, u_expr, u_ifs, u_c, u_op, u_neg, u_test, u_and, u_or, u_not, u_if, u_nil, u_cons, u_tup, u_lst, u_callP, u_call, u_b, u_chain, u_andV, u_addI, u_subI, u_mulI, u_divI, u_modI, u_powI, u_cmpI, u_eqI, u_eqS, u_eqB, u_abs, u_intI, u_intB, u_newT, u_newF, u_isN, u_notN, wVar, List.set_cons_zero, List.set_cons_succ, List.getElem?_cons_zero, List.getElem?_cons_succ, List.length_cons, List.length_nil, u_lc, u_for, u_r1, u_r2, u_r3, u_num, u_notV, u_yes, u_w0, u_w1, u_dput, u_get2, u_dget, u_prop, u_fld, u_setF, u_make, u_makeS, u_met, u_calO, u_orT, u_tupIt, u_dc, u_maxDd, u_dnew, u_tupi, ix_p0, ix_p1, wSl, woNone, woSome]
    refine ⟨sz_le (show 10 ≤ 100000 by decide), ?_⟩
    refine addL_go (by decide) ?_
    try dsimp only [List.cons_append, List.nil_append]
    try dsimp only [List.set_cons_zero, List.set_cons_succ]
    rw [u_seq]
    simp only [u_asg, u_gN, u_ret, u_retN, u_skip, u_expr, u_ifs, u_c, u_op, u_neg, u_test, u_and, u_or, u_not, u_if, u_nil, u_cons, u_tup, u_lst, u_callP, u_call, u_b, u_chain, u_andV, u_addI, u_subI, u_mulI, u_divI, u_modI, u_powI, u_cmpI, u_eqI, u_eqS, u_eqB, u_abs, u_intI, u_intB, u_newT, u_newF, u_isN, u_notN, wVar, List.set_cons_zero, List.set_cons_succ, List.getElem?_cons_zero, List.getElem?_cons_succ, List.length_cons, List.length_nil, u_lc, u_for, u_r1, u_r2, u_r3, u_num, u_notV, u_yes, u_w0, u_w1, u_dput, u_get2, u_dget, u_prop, u_fld, u_setF, u_make, u_makeS, u_met, u_calO, u_orT, u_tupIt, u_dc, u_maxDd, u_dnew, u_tupi, ix_p0, ix_p1, wSl, woNone, woSome]
    refine ⟨sz_le (show 3 ≤ 100000 by decide), ?_⟩
    refine addL_go (by decide) ?_
    try dsimp only [List.cons_append, List.nil_append]
    try simp only [u_asg, u_gN, u_ret, u_retN, u_skip, u_expr, u_ifs, u_c, u_op, u_neg, u_test, u_and, u_or, u_not, u_if, u_nil, u_cons, u_tup, u_lst, u_callP, u_call, u_b, u_chain, u_andV, u_addI, u_subI, u_mulI, u_divI, u_modI, u_powI, u_cmpI, u_eqI, u_eqS, u_eqB, u_abs, u_intI, u_intB, u_newT, u_newF, u_isN, u_notN, wVar, List.set_cons_zero, List.set_cons_succ, List.getElem?_cons_zero, List.getElem?_cons_succ, List.length_cons, List.length_nil, u_lc, u_for, u_r1, u_r2, u_r3, u_num, u_notV, u_yes, u_w0, u_w1, u_dput, u_get2, u_dget, u_prop, u_fld, u_setF, u_make, u_makeS, u_met, u_calO, u_orT, u_tupIt, u_dc, u_maxDd, u_dnew, u_tupi, ix_p0, ix_p1, wSl, woNone, woSome]
    rw [if_neg (by decide)]
    refine ⟨sz_le (show 4 ≤ 100000 by decide), ?_⟩
    refine same_ref (xs := ([true, false, false, true] : List Bool).map .bl) up_same (fl_bls _) (by decide) ?_
    try simp only [if_true]
    rw [u_ixLd (show atI _ _ = some (D.str "capacity") from rfl)]
    exact fin_sub (sub_up hp1) q
  | long v =>
    try dsimp only [List.set_cons_zero, List.set_cons_succ]
    rw [u_seq]
    simp only [u_asg, u_gN, u_ret, u_retN, u_skip, u_expr, u_ifs, u_c, u_op, u_neg, u_test, u_and, u_or, u_not, u_if, u_nil, u_cons, u_tup, u_lst, u_callP, u_call, u_b, u_chain, u_andV, u_addI, u_subI, u_mulI, u_divI, u_modI, u_powI, u_cmpI, u_eqI, u_eqS, u_eqB, u_abs, u_intI, u_intB, u_newT, u_newF, u_isN, u_notN, wVar, List.set_cons_zero, List.set_cons_succ, List.getElem?_cons_zero, List.getElem?_cons_succ, List.length_cons, List.length_nil, u_lc, u_for, u_r1, u_r2, u_r3, u_num, u_notV, u_yes, u_w0, u_w1, u_dput, u_get2, u_dget, u_prop, u_fld, u_setF, u_make, u_makeS, u_met, u_calO, u_orT, u_tupIt, u_dc, u_maxDd, u_dnew, u_tupi, ix_p0, ix_p1, wSl, woNone, woSome]
    refine isX_go (b := false) (by simp [xtab])  (isX_go (b := false) (by simp [xtab])  (isX_go (b := false) (by simp [xtab])  ?_))
    refine ⟨sz_le (show 3 ≤ 100000 by decide), ?_⟩
    try dsimp only [List.cons_append, List.nil_append]
    try dsimp only [List.set_cons_zero, List.set_cons_succ]
    rw [u_seq]
    simp only [u_asg, u_gN, u_ret, u_retN, u_skip, u_expr, u_ifs, u_c, u_op, u_neg, u_test, u_and, u_or, u_not, u_if, u_nil, u_cons, u_tup, u_lst, u_callP, u_call, u_b, u_chain, u_andV, u_addI, u_subI, u_mulI, u_divI, u_modI, u_powI, u_cmpI, u_eqI, u_eqS, u_eqB, u_abs, u_intI, u_intB, u_newT, u_newF, u_isN, u_notN, wVar, List.set_cons_zero, List.set_cons_succ, List.getElem?_cons_zero, List.getElem?_cons_succ, List.length_cons, List.length_nil, u_lc, u_for, u_r1, u_r2, u_r3, u_num, u_notV, u_yes, u_w0, u_w1, u_dput, u_get2, u_dget, u_prop, u_fld, u_setF, u_make, u_makeS, u_met, u_calO, u_orT, u_tupIt, u_dc, u_maxDd, u_dnew, u_tupi, ix_p0, ix_p1, wSl, woNone, woSome]
    refine isX_go (b := false) (by simp [xtab])  (isX_go (b := false) (by simp [xtab])  (isX_go (b := false) (by simp [xtab])  ?_))
    refine ⟨sz_le (show 3 ≤ 100000 by decide), ?_⟩
    refine addL_go (by decide) ?_
    try dsimp only [List.cons_append, List.nil_append]
    try dsimp only [List.set_cons_zero, List.set_cons_succ]
    rw [u_seq]
    simp only [u_asg, u_gN, u_ret, u_retN, u_skip, u_expr, u_ifs, u_c, u_op, u_neg, u_test, u_and, u_or, u_not, u_if, u_nil, u_cons, u_tup, u_lst, u_callP, u_call, u_b, u_chain, u_andV, u_addI, u_subI, u_mulI, u_divI, u_modI, u_powI, u_cmpI, u_eqI, u_eqS, u_eqB, u_abs, u_intI, u_intB, u_newT, u_newF, u_isN, u_notN, wVar, List.set_cons_zero, List.set_cons_succ, List.getElem?_cons_zero, List.getElem?_cons_succ, List.length_cons, List.length_nil, u_lc, u_for, u_r1, u_r2, u_r3, u_num, u_notV, u_yes, u_w0, u_w1, u_dput, u_get2, u_dget, u_prop, u_fld, u_setF, u_make, u_makeS, u_met, u_calO, u_orT, u_tupIt, u_dc, u_maxDd, u_dnew, u_tupi, ix_p0, ix_p1, wSl, woNone, woSome]
    refine isX_go (b := false) (by simp [xtab])  (isX_go (b := false) (by simp [xtab])  (isX_go (b := false) (by simp [xtab])  ?_))
    refine ⟨sz_le (show 3 ≤ 100000 by decide), ?_⟩
    refine addL_go (by decide) ?_
    try dsimp only [List.cons_append, List.nil_append]
    try dsimp only [List.set_cons_zero, List.set_cons_succ]
    rw [u_seq]
    simp only [u_asg, u_gN, u_ret, u_retN, u_skip, u_expr, u_ifs, u_c, u_op, u_neg, u_test, u_and, u_or, u_not, u_if, u_nil, u_cons, u_tup, u_lst, u_callP, u_call, u_b, u_chain, u_andV, u_addI, u_subI, u_mulI, u_divI, u_modI, u_powI, u_cmpI, u_eqI, u_eqS, u_eqB, u_abs, u_intI, u_intB, u_newT, u_newF, u_isN, u_notN, wVar, List.set_cons_zero, List.set_cons_succ, List.getElem?_cons_zero, List.getElem?_cons_succ, List.length_cons, List.length_nil, u_lc, u_for, u_r1, u_r2, u_r3, u_num, u_notV, u_yes, u_w0, u_w1, u_dput, u_get2, u_dget, u_prop, u_fld, u_setF, u_make, u_makeS, u_met, u_calO, u_orT, u_tupIt, u_dc, u_maxDd, u_dnew, u_tupi, ix_p0, ix_p1, wSl, woNone, woSome]
    refine isX_go (b := false) (by simp [xtab])  (isX_go (b := false) (by simp [xtab])  (isX_go (b := false) (by simp [xtab])  ?_))
    refine ⟨sz_le (show 3 ≤ 100000 by decide), ?_⟩
    refine addL_go (by decide) ?_
    try dsimp only [List.cons_append, List.nil_append]
    try dsimp only [List.set_cons_zero, List.set_cons_succ]
    rw [u_seq]
    simp only [u_asg, u_gN, u_ret, u_retN, u_skip, u_expr, u_ifs, u_c, u_op, u_neg, u_test, u_and, u_or, u_not, u_if, u_nil, u_cons, u_tup, u_lst, u_callP, u_call, u_b, u_chain, u_andV, u_addI, u_subI, u_mulI, u_divI, u_modI, u_powI, u_cmpI, u_eqI, u_eqS, u_eqB, u_abs, u_intI, u_intB, u_newT, u_newF, u_isN, u_notN, wVar, List.set_cons_zero, List.set_cons_succ, List.getElem?_cons_zero, List.getElem?_cons_succ, List.length_cons, List.length_nil, u_lc, u_for, u_r1, u_r2, u_r3, u_num, u_notV, u_yes, u_w0, u_w1, u_dput, u_get2, u_dget, u_prop, u_fld, u_setF, u_make, u_makeS, u_met, u_calO, u_orT, u_tupIt, u_dc, u_maxDd, u_dnew, u_tupi, ix_p0, ix_p1, wSl, woNone, woSome]
    refine isX_go (b := false) (by simp [xtab])  (isX_go (b := false) (by simp [xtab])  (isX_go (b := false) (by simp [xtab])  ?_))
    refine ⟨sz_le (show 3 ≤ 100000 by decide), ?_⟩
    refine addL_go (by decide) ?_
    try dsimp only [List.cons_append, List.nil_append]
    try dsimp only [List.set_cons_zero, List.set_cons_succ]
    rw [u_seq]
    simp only [u_asg, u_gN, u_ret, u_retN, u_skip, u_expr, u_ifs, u_c, u_op, u_neg, u_test, u_and, u_or, u_not, u_if, u_nil, u_cons, u_tup, u_lst, u_callP, u_call, u_b, u_chain, u_andV, u_addI, u_subI, u_mulI, u_divI, u_modI, u_powI, u_cmpI, u_eqI, u_eqS, u_eqB, u_abs, u_intI, u_intB, u_newT, u_newF, u_isN, u_notN, wVar, List.set_cons_zero, List.set_cons_succ, List.getElem?_cons_zero, List.getElem?_cons_succ, List.length_cons, List.length_nil, u_lc, u_for, u_r1, u_r2, u_r3, u_num, u_notV, u_yes, u_w0, u_w1, u_dput, u_get2, u_dget, u_prop, u_fld, u_setF, u_make, u_makeS, u_met, u_calO, u_orT, u_tupIt, u_dc, u_maxDd, u_dnew, u_tupi, ix_p0, ix_p1, wSl, woNone, woSome]
    refine isX_go (b := true) (by simp [xtab])  (isX_go (b := false) (by simp [xtab])  (isX_go (b := false) (by simp [xtab])  ?_))
    refine ⟨sz_le (show 3 ≤ 100000 by decide), ?_⟩
    refine addL_go (by decide) ?_
    try dsimp only [List.cons_append, List.nil_append]
    try dsimp only [List.set_cons_zero, List.set_cons_succ]
    rw [u_seq]
    simp only [u_asg, u_gN, u_ret, u_retN, u_skip, u_expr, u_ifs, u_c, u_op, u_neg, u_test, u_and, u_or, u_not, u_if, u_nil, u_cons, u_tup, u_lst, u_callP, u_call, u_b, u_chain, u_andV, u_addI, u_subI, u_mulI, u_divI, u_modI, u_powI, u_cmpI, u_eqI, u_eqS, u_eqB, u_abs, u_intI, u_intB, u_newT, u_newF, u_isN, u_notN, wVar, List.set_cons_zero, List.set_cons_succ, List.getElem?_cons_zero, List.getElem?_cons_succ, List.length_cons, List.length_nil, u_lc, u_for, u_r1, u_r2, u_r3, u_num, u_notV, u_yes, u_w0, u_w1, u_dput, u_get2, u_dget, u_prop, u_fld, u_setF, u_make, u_makeS, u_met, u_calO, u_orT, u_tupIt, u_dc, u_maxDd, u_dnew, u_tupi, ix_p0, ix_p1, wSl, woNone, woSome]
    refine isX_go (b := false) (by simp [xtab])  (isX_go (b := false) (by simp [xtab])  (isX_go (b := false) (by simp [xtab])  ?_))
    refine ⟨sz_le (show 3 ≤ 100000 by decide), ?_⟩
    refine addL_go (by decide) ?_
    try dsimp only [List.cons_append, List.nil_append]
    try dsimp only [List.set_cons_zero, List.set_cons_succ]
    rw [u_seq]
    simp only [u_asg, u_gN, u_ret, u_retN, u_skip, u_expr, u_ifs, u_c, u_op, u_neg, u_test, u_and, u_or, u_not, u_if, u_nil, u_cons, u_tup, u_lst, u_callP, u_call, u_b, u_chain, u_andV, u_addI, u_subI, u_mulI, u_divI, u_modI, u_powI, u_cmpI, u_eqI, u_eqS, u_eqB, u_abs, u_intI, u_intB, u_newT, u_newF, u_isN, u_notN, wVar, List.set_cons_zero, List.set_cons_succ, List.getElem?_cons_zero, List.getElem?_cons_succ, List.length_cons, List.length_nil, u_lc, u_for, u_r1, u_r2, u_r3, u_num, u_notV, u_yes, u_w0, u_w1, u_dput, u_get2, u_dget, u_prop, u_fld, u_setF, u_make, u_makeS, u_met, u_calO, u_orT, u_tupIt, u_dc, u_maxDd, u_dnew, u_tupi, ix_p0, ix_p1, wSl, woNone, woSome]
    refine isX_go (b := false) (by simp [xtab])  (isX_go (b := false) (by simp [xtab])  (isX_go (b := false) (by simp [xtab])  ?_))
    refine ⟨sz_le (show 3 ≤ 100000 by decide), ?_⟩
    refine addL_go (by decide) ?_
    try dsimp only [List.cons_append, List.nil_append]
    try dsimp only [List.set_cons_zero, List.set_cons_succ]
    rw [u_seq]
    simp only [wMethT, u_asg, u_gN, u_ret, u_retN, u_skip, u_expr, u_ifs, u_c, u_op, u_neg, u_test, u_and, u_or, u_not, u_if, u_nil, u_cons, u_tup, u_lst, u_callP, u_call, u_b, u_chain, u_andV, u_addI, u_subI, u_mulI, u_divI, u_modI, u_powI, u_cmpI, u_eqI, u_eqS, u_eqB, u_abs, u_intI, u_intB, u_newT, u_newF, u_isN, u_notN, wVar, List.set_cons_zero, List.set_cons_succ, List.getElem?_cons_zero, List.getElem?_cons_succ, List.length_cons, List.length_nil, u_lc, u_for, u_r1, u_r2, u_r3, u_num, u_notV, u_yes, u_w0, u_w1, u_dput, u_get2, u_dget, u_prop, u_fld, u_setF, u_make, u_makeS, u_met, u_calO, u_orT, u_tupIt, u_dc, u_maxDd, u_dnew, u_tupi, ix_p0, ix_p1, wSl, woNone, woSome]
    refine ⟨⟨_, rfl⟩, [false, false, false, false, false, false, false, false, false, false, false, false, false, false, false, true, false, false, false, false, false, false, false, false], true, rfl, rfl, ?_⟩
    dsimp only
    rw [u_eqI, show (!decide (((([false, false, false, false, false, false, false, false, false, false, false, false, false, false, false, true, false, false, false, false, false, false, false, false] : List Bool).countP fun b => b == true : Nat) : Int) = 1)) = false from by decide]
    try dsimp only
    rw [if_neg (by decide)]
    try dsimp only [List.set_cons_zero, List.set_cons_succ]
    rw [u_seq]
    simp only [wMethT, u_asg, u_gN, u_ret, u_retN, u_skip, u_expr, u_ifs, u_c, u_op, u_neg, u_test, u_and, u_or, u_not, u_if, u_nil, u_cons, u_tup, u_lst, u_callP, u_call, u_b, u_chain, u_andV, u_addI, u_subI, u_mulI, u_divI, u_modI, u_powI, u_cmpI, u_eqI, u_eqS, u_eqB, u_abs, u_intI, u_intB, u_newT, u_newF, u_isN, u_notN, wVar, List.set_cons_zero, List.set_cons_succ, List.getElem?_cons_zero, List.getElem?_cons_succ, List.length_cons, List.length_nil, u_lc, u_for, u_r1, u_r2, u_r3, u_num, u_notV, u_yes, u_w0, u_w1, u_dput, u_get2, u_dget, u_prop, u_fld, u_setF, u_make, u_makeS, u_met, u_calO, u_orT, u_tupIt, u_dc, u_maxDd, u_dnew, u_tupi, ix_p0, ix_p1, wSl, woNone, woSome]
    refine ⟨⟨_, rfl⟩, [false, false, false, false, false, false, false, false, false, false, false, false, false, false, false, true, false, false, false, false, false, false, false, false], true, 15, rfl, rfl, rfl, ?_⟩
    try dsimp only [List.set_cons_zero, List.set_cons_succ]
    rw [u_seq]
    simp only [u_asg, u_gN, u_ret, u_retN, u_skip, u_expr, u_ifs, u_c, u_op, u_neg, u_test, u_and, u_or, u_not, u_if, u_nil, u_cons, u_tup, u_lst, u_callP, u_call, u_b, u_chain, u_andV, u_addI, u_subI, u_mulI, u_divI, u_modI, u_powI, u_cmpI, u_eqI, u_eqS, u_eqB, u_abs, u_intI, u_intB, u_newT, u_newF, u_isN, u_notN, wVar, List.set_cons_zero, List.set_cons_succ, List.getElem?_cons_zero, List.getElem?_cons_succ, List.length_cons, List.length_nil, u_lc, u_for, u_r1, u_r2, u_r3, u_num, u_notV, u_yes, u_w0, u_w1, u_dput, u_get2, u_dget, u_prop, u_fld, u_setF, u_make, u_makeS, u_met, u_calO, u_orT, u_tupIt, u_dc, u_maxDd, u_dnew, u_tupi, ix_p0, ix_p1, wSl, woNone, woSome]
    refine isX_go (b := false) (by simp [xtab])  (isX_go (b := true) (by simp [xtab])  (isX_go (b := false) (by simp [xtab])  ?_))
    refine ⟨sz_le (show 3 ≤ 100000 by decide), fun p1 hp1 => ?_⟩
    try dsimp only [List.set_cons_zero, List.set_cons_succ]
    rw [u_seq]
    simp only [wMethT, u_asg, u_gN, u_ret, u_retN, u_skip, u_expr, u_ifs, u_c, u_op, u_neg, u_test, u_and, u_or, u_not, u_if, u_nil, u_cons, u_tup, u_lst, u_callP, u_call, u_b, u_chain, u_andV, u_addI, u_subI, u_mulI, u_divI, u_modI, u_powI, u_cmpI, u_eqI, u_eqS, u_eqB, u_abs, u_intI, u_intB, u_newT, u_newF, u_isN, u_notN, wVar, List.set_cons_zero, List.set_cons_succ, List.getElem?_cons_zero, List.getElem?_cons_succ, List.length_cons, List.length_nil, u_lc, u_for, u_r1, u_r2, u_r3, u_num, u_notV, u_yes, u_w0, u_w1, u_dput, u_get2, u_dget, u_prop, u_fld, u_setF, u_make, u_makeS, u_met, u_calO, u_orT, u_tupIt, u_dc, u_maxDd, u_dnew, u_tupi, ix_p0, ix_p1, wSl, woNone, woSome]
    refine ⟨⟨_, lst_ref up_same⟩, isX_go (b := false) (by simp [xtab])  (isX_go (b := true) (by simp [xtab])  (isX_go (b := false) (by simp [xtab])  ?_))⟩
    refine ⟨sz_le (show 3 ≤ 100000 by decide), ?_⟩
    try simp only [u_asg, u_gN, u_ret, u_retN, u_skip, u_expr, u_ifs, u_c, u_op, u_neg, u_test, u_and, u_or, u_not, u_if, u_nil, u_cons, u_tup, u_lst, u_callP, u_call, u_b, u_chain, u_andV, u_addI, u_subI, u_mulI, u_divI, u_modI, u_powI, u_cmpI, u_eqI, u_eqS, u_eqB, u_abs, u_intI, u_intB, u_newT, u_newF, u_isN, u_notN, wVar, List.set_cons_zero, List.set_cons_succ, List.getElem?_cons_zero, List.getElem?_cons_succ, List.length_cons, List.length_nil, u_lc, u_for, u_r1, u_r2, u_r3, u_num, u_notV, u_yes, u_w0, u_w1, u_dput, u_get2, u_dget, u_prop, u_fld, u_setF, u_make, u_makeS, u_met, u_calO, u_orT, u_tupIt, u_dc, u_maxDd, u_dnew, u_tupi, ix_p0, ix_p1, wSl, woNone, woSome]
    rw [u_ixLd (show atI _ _ = some (D.bl true) from rfl)]
    refine ⟨p1, _, _, rfl, rfl, up_same, (Nat.lt_of_lt_of_le (show _ < 100000 by decide) DL.big_size), ?_⟩
    rw [up_up]
    try dsimp only [List.set_cons_zero, List.set_cons_succ]
    rw [u_seq]
    simp only [u_asg, u_gN, u_ret, u_retN, u_skip, u_expr, u_ifs, u_c, u_op, u_neg, u_test, u_and, u_or, u_not, u_if, u_nil, u_cons, u_tup, u_lst, u_callP, u_call, u_b, u_chain, u_andV, u_addI, u_subI, u_mulI, u_divI, u_modI, u_powI, u_cmpI, u_eqI, u_eqS, u_eqB, u_abs, u_intI, u_intB, u_newT, u_newF, u_isN, u_notN, wVar, List.set_cons_zero, List.set_cons_succ, List.getElem?_cons_zero, List.getElem?_cons_succ, List.length_cons, List.length_nil, u_lc, u_for, u_r1, u_r2, u_r3, u_num, u_notV, u_yes, u_w0, u_w1, u_dput, u_get2, u_dget, u_prop, u_fld, u_setF, u_make, u_makeS, u_met, u_calO, u_orT, u_tupIt, u_dc, u_maxDd, u_dnew, u_tupi, ix_p0, ix_p1, wSl, woNone, woSome]
    refine ⟨sz_le (show 11 ≤ 100000 by decide), ?_⟩
    try dsimp only [List.cons_append, List.nil_append]
    try dsimp only [List.set_cons_zero, List.set_cons_succ]
    rw [u_seq]
    simp only [u_asg, u_gN, u_ret, u_retN, u_skip, u_expr, u_ifs, u_c, u_op, u_neg, u_test, u_and, u_or, u_not, u_if, u_nil, u_cons, u_tup, u_lst, u_callP, u_call, u_b, u_chain, u_andV, u_addI, u_subI, u_mulI, u_divI, u_modI, u_powI, u_cmpI, u_eqI, u_eqS, u_eqB, u_abs, u_intI, u_intB, u_newT, u_newF, u_isN, u_notN, wVar, List.set_cons_zero, List.set_cons_succ, List.getElem?_cons_zero, List.getElem?_cons_succ, List.length_cons, List.length_nil, u_lc, u_for, u_r1, u_r2, u_r3, u_num, u_notV, u_yes, u_w0, u_w1, u_dput, u_get2, u_dget, u_prop, u_fld, u_setF, u_make, u_makeS, u_met, u_calO, u_orT, u_tupIt, u_dc, u_maxDd, u_dnew, u_tupi, ix_p0, ix_p1, wSl, woNone, woSome]
    refine ⟨sz_le (show 10 ≤ 100000 by decide), ?_⟩
    refine addL_go (by decide) ?_
    try dsimp only [List.cons_append, List.nil_append]
    try dsimp only [List.set_cons_zero, List.set_cons_succ]
    rw [u_seq]
    simp only [u_asg, u_gN, u_ret, u_retN, u_skip, u_expr, u_ifs, u_c, u_op, u_neg, u_test, u_and, u_or, u_not, u_if, u_nil, u_cons, u_tup, u_lst, u_callP, u_call, u_b, u_chain, u_andV, u_addI, u_subI, u_mulI, u_divI, u_modI, u_powI, u_cmpI, u_eqI, u_eqS, u_eqB, u_abs, u_intI, u_intB, u_newT, u_newF, u_isN, u_notN, wVar, List.set_cons_zero, List.set_cons_succ, List.getElem?_cons_zero, List.getElem?_cons_succ, List.length_cons, List.length_nil, u_lc, u_for, u_r1, u_r2, u_r3, u_num, u_notV, u_yes, u_w0, u_w1, u_dput, u_get2, u_dget, u_prop, u_fld, u_setF, u_make, u_makeS, u_met, u_calO, u_orT, u_tupIt, u_dc, u_maxDd, u_dnew, u_tupi, ix_p0, ix_p1, wSl, woNone, woSome]
    refine ⟨sz_le (show 3 ≤ 100000 by decide), ?_⟩
    refine addL_go (by decide) ?_
    try dsimp only [List.cons_append, List.nil_append]
    try simp only [u_asg, u_gN, u_ret, u_retN, u_skip, u_expr, u_ifs, u_c, u_op, u_neg, u_test, u_and, u_or, u_not, u_if, u_nil, u_cons, u_tup, u_lst, u_callP, u_call, u_b, u_chain, u_andV, u_addI, u_subI, u_mulI, u_divI, u_modI, u_powI, u_cmpI, u_eqI, u_eqS, u_eqB, u_abs, u_intI, u_intB, u_newT, u_newF, u_isN, u_notN, wVar, List.set_cons_zero, List.set_cons_succ, List.getElem?_cons_zero, List.getElem?_cons_succ, List.length_cons, List.length_nil, u_lc, u_for, u_r1, u_r2, u_r3, u_num, u_notV, u_yes, u_w0, u_w1, u_dput, u_get2, u_dget, u_prop, u_fld, u_setF, u_make, u_makeS, u_met, u_calO, u_orT, u_tupIt, u_dc, u_maxDd, u_dnew, u_tupi, ix_p0, ix_p1, wSl, woNone, woSome]
    rw [if_pos (by decide)]
    refine ⟨sz_le (show 4 ≤ 100000 by decide), ?_⟩
    refine same_ref (xs := ([false, true, false, true] : List Bool).map .bl) up_same (fl_bls _) (by decide) ?_
    try simp only [if_true]
    rw [u_ixLd (show atI _ _ = some (D.str "long") from rfl)]
    exact fin_sub (sub_up hp1) q
end K26
namespace K26
open PySem PySem.Spec L2 C8 DL PK PL PQ PN PB F4 PR
theorem in_str {w : Str} {ws : List D} {b : Bool} {h : AH} {Q : KD} (hb : inD (.str w) ws = b) (hf : ws.all flatD = true) (q : Q (.bl b) h) : dIn false (.str w) (.tup ws) h Q := ⟨ws, rfl, rfl, hf, by subst hb; exact q⟩
theorem p__law_more_field (z : Ad) : ∀ ds h Q X, S__law_more_field z ds h Q X → w__law_more_field z (endsD Q X) (startD 2 ds) h := fun _ _ _ _ q => q.2.elim
theorem p__law_field (z : Ad) : ∀ ds h Q X, S__law_field z ds h Q X → w__law_field z (endsD Q X) (startD 2 ds) h := by
  rintro ds h Q X ⟨C, fs, w, v, rfl, hw, q⟩
  show w__law_field z (endsD Q X) [some (.str w), some (.xob C fs)] h
  unfold w__law_field
  cases hw with
  | cap v =>
    rw [u_seq]
    simp only [u_asg, u_gN, u_ret, u_retN, u_skip, u_expr, u_ifs, u_c, u_op, u_neg, u_test, u_and, u_or, u_not, u_if, u_nil, u_cons, u_tup, u_lst, u_callP, u_call, u_b, u_chain, u_andV, u_addI, u_subI, u_mulI, u_divI, u_modI, u_powI, u_cmpI, u_eqI, u_eqS, u_eqB, u_abs, u_intI, u_intB, u_newT, u_newF, u_isN, u_notN, wVar, List.set_cons_zero, List.set_cons_succ, List.getElem?_cons_zero, List.getElem?_cons_succ, List.length_cons, List.length_nil, u_lc, u_for, u_r1, u_r2, u_r3, u_num, u_notV, u_yes, u_w0, u_w1, u_dput, u_get2, u_dget, u_prop, u_fld, u_setF, u_make, u_makeS, u_met, u_calO, u_orT, u_tupIt, u_dc, u_maxDd, u_dnew, u_tupi, ix_p0, ix_p1, wSl, woNone, woSome]
    refine ⟨sz_le (show 5 ≤ 100000 by decide), in_str (b := true) (by decide +kernel) (by decide +kernel) ?_⟩
    dsimp only
    rw [if_pos rfl]
    simp only [wXFld, u_asg, u_gN, u_ret, u_retN, u_skip, u_expr, u_ifs, u_c, u_op, u_neg, u_test, u_and, u_or, u_not, u_if, u_nil, u_cons, u_tup, u_lst, u_callP, u_call, u_b, u_chain, u_andV, u_addI, u_subI, u_mulI, u_divI, u_modI, u_powI, u_cmpI, u_eqI, u_eqS, u_eqB, u_abs, u_intI, u_intB, u_newT, u_newF, u_isN, u_notN, wVar, List.set_cons_zero, List.set_cons_succ, List.getElem?_cons_zero, List.getElem?_cons_succ, List.length_cons, List.length_nil, u_lc, u_for, u_r1, u_r2, u_r3, u_num, u_notV, u_yes, u_w0, u_w1, u_dput, u_get2, u_dget, u_prop, u_fld, u_setF, u_make, u_makeS, u_met, u_calO, u_orT, u_tupIt, u_dc, u_maxDd, u_dnew, u_tupi, ix_p0, ix_p1, wSl, woNone, woSome]
    exact ⟨_, _, _, rfl, by simp, rfl, sz_le (show 1 ≤ 100000 by decide), fin_of q⟩
  | long v =>
    rw [u_seq]
    simp only [u_asg, u_gN, u_ret, u_retN, u_skip, u_expr, u_ifs, u_c, u_op, u_neg, u_test, u_and, u_or, u_not, u_if, u_nil, u_cons, u_tup, u_lst, u_callP, u_call, u_b, u_chain, u_andV, u_addI, u_subI, u_mulI, u_divI, u_modI, u_powI, u_cmpI, u_eqI, u_eqS, u_eqB, u_abs, u_intI, u_intB, u_newT, u_newF, u_isN, u_notN, wVar, List.set_cons_zero, List.set_cons_succ, List.getElem?_cons_zero, List.getElem?_cons_succ, List.length_cons, List.length_nil, u_lc, u_for, u_r1, u_r2, u_r3, u_num, u_notV, u_yes, u_w0, u_w1, u_dput, u_get2, u_dget, u_prop, u_fld, u_setF, u_make, u_makeS, u_met, u_calO, u_orT, u_tupIt, u_dc, u_maxDd, u_dnew, u_tupi, ix_p0, ix_p1, wSl, woNone, woSome]
    refine ⟨sz_le (show 5 ≤ 100000 by decide), in_str (b := false) (by decide +kernel) (by decide +kernel) ?_⟩
    dsimp only
    rw [if_neg (by decide), u_seq]
    simp only [u_asg, u_gN, u_ret, u_retN, u_skip, u_expr, u_ifs, u_c, u_op, u_neg, u_test, u_and, u_or, u_not, u_if, u_nil, u_cons, u_tup, u_lst, u_callP, u_call, u_b, u_chain, u_andV, u_addI, u_subI, u_mulI, u_divI, u_modI, u_powI, u_cmpI, u_eqI, u_eqS, u_eqB, u_abs, u_intI, u_intB, u_newT, u_newF, u_isN, u_notN, wVar, List.set_cons_zero, List.set_cons_succ, List.getElem?_cons_zero, List.getElem?_cons_succ, List.length_cons, List.length_nil, u_lc, u_for, u_r1, u_r2, u_r3, u_num, u_notV, u_yes, u_w0, u_w1, u_dput, u_get2, u_dget, u_prop, u_fld, u_setF, u_make, u_makeS, u_met, u_calO, u_orT, u_tupIt, u_dc, u_maxDd, u_dnew, u_tupi, ix_p0, ix_p1, wSl, woNone, woSome]
    refine ⟨sz_le (show 2 ≤ 100000 by decide), in_str (b := false) (by decide +kernel) (by decide +kernel) ?_⟩
    dsimp only
    rw [if_neg (by decide), u_seq]
    simp only [u_asg, u_gN, u_ret, u_retN, u_skip, u_expr, u_ifs, u_c, u_op, u_neg, u_test, u_and, u_or, u_not, u_if, u_nil, u_cons, u_tup, u_lst, u_callP, u_call, u_b, u_chain, u_andV, u_addI, u_subI, u_mulI, u_divI, u_modI, u_powI, u_cmpI, u_eqI, u_eqS, u_eqB, u_abs, u_intI, u_intB, u_newT, u_newF, u_isN, u_notN, wVar, List.set_cons_zero, List.set_cons_succ, List.getElem?_cons_zero, List.getElem?_cons_succ, List.length_cons, List.length_nil, u_lc, u_for, u_r1, u_r2, u_r3, u_num, u_notV, u_yes, u_w0, u_w1, u_dput, u_get2, u_dget, u_prop, u_fld, u_setF, u_make, u_makeS, u_met, u_calO, u_orT, u_tupIt, u_dc, u_maxDd, u_dnew, u_tupi, ix_p0, ix_p1, wSl, woNone, woSome]
    refine ⟨sz_le (show 2 ≤ 100000 by decide), in_str (b := false) (by decide +kernel) (by decide +kernel) ?_⟩
    dsimp only
    rw [if_neg (by decide), u_seq]
    simp only [u_asg, u_gN, u_ret, u_retN, u_skip, u_expr, u_ifs, u_c, u_op, u_neg, u_test, u_and, u_or, u_not, u_if, u_nil, u_cons, u_tup, u_lst, u_callP, u_call, u_b, u_chain, u_andV, u_addI, u_subI, u_mulI, u_divI, u_modI, u_powI, u_cmpI, u_eqI, u_eqS, u_eqB, u_abs, u_intI, u_intB, u_newT, u_newF, u_isN, u_notN, wVar, List.set_cons_zero, List.set_cons_succ, List.getElem?_cons_zero, List.getElem?_cons_succ, List.length_cons, List.length_nil, u_lc, u_for, u_r1, u_r2, u_r3, u_num, u_notV, u_yes, u_w0, u_w1, u_dput, u_get2, u_dget, u_prop, u_fld, u_setF, u_make, u_makeS, u_met, u_calO, u_orT, u_tupIt, u_dc, u_maxDd, u_dnew, u_tupi, ix_p0, ix_p1, wSl, woNone, woSome]
    refine ⟨sz_le (show 2 ≤ 100000 by decide), in_str (b := false) (by decide +kernel) (by decide +kernel) ?_⟩
    dsimp only
    rw [if_neg (by decide), u_seq]
    simp only [u_asg, u_gN, u_ret, u_retN, u_skip, u_expr, u_ifs, u_c, u_op, u_neg, u_test, u_and, u_or, u_not, u_if, u_nil, u_cons, u_tup, u_lst, u_callP, u_call, u_b, u_chain, u_andV, u_addI, u_subI, u_mulI, u_divI, u_modI, u_powI, u_cmpI, u_eqI, u_eqS, u_eqB, u_abs, u_intI, u_intB, u_newT, u_newF, u_isN, u_notN, wVar, List.set_cons_zero, List.set_cons_succ, List.getElem?_cons_zero, List.getElem?_cons_succ, List.length_cons, List.length_nil, u_lc, u_for, u_r1, u_r2, u_r3, u_num, u_notV, u_yes, u_w0, u_w1, u_dput, u_get2, u_dget, u_prop, u_fld, u_setF, u_make, u_makeS, u_met, u_calO, u_orT, u_tupIt, u_dc, u_maxDd, u_dnew, u_tupi, ix_p0, ix_p1, wSl, woNone, woSome]
    rw [if_neg (by decide +kernel), u_seq]
    simp only [u_asg, u_gN, u_ret, u_retN, u_skip, u_expr, u_ifs, u_c, u_op, u_neg, u_test, u_and, u_or, u_not, u_if, u_nil, u_cons, u_tup, u_lst, u_callP, u_call, u_b, u_chain, u_andV, u_addI, u_subI, u_mulI, u_divI, u_modI, u_powI, u_cmpI, u_eqI, u_eqS, u_eqB, u_abs, u_intI, u_intB, u_newT, u_newF, u_isN, u_notN, wVar, List.set_cons_zero, List.set_cons_succ, List.getElem?_cons_zero, List.getElem?_cons_succ, List.length_cons, List.length_nil, u_lc, u_for, u_r1, u_r2, u_r3, u_num, u_notV, u_yes, u_w0, u_w1, u_dput, u_get2, u_dget, u_prop, u_fld, u_setF, u_make, u_makeS, u_met, u_calO, u_orT, u_tupIt, u_dc, u_maxDd, u_dnew, u_tupi, ix_p0, ix_p1, wSl, woNone, woSome]
    rw [if_neg (by decide +kernel), u_seq]
    simp only [u_asg, u_gN, u_ret, u_retN, u_skip, u_expr, u_ifs, u_c, u_op, u_neg, u_test, u_and, u_or, u_not, u_if, u_nil, u_cons, u_tup, u_lst, u_callP, u_call, u_b, u_chain, u_andV, u_addI, u_subI, u_mulI, u_divI, u_modI, u_powI, u_cmpI, u_eqI, u_eqS, u_eqB, u_abs, u_intI, u_intB, u_newT, u_newF, u_isN, u_notN, wVar, List.set_cons_zero, List.set_cons_succ, List.getElem?_cons_zero, List.getElem?_cons_succ, List.length_cons, List.length_nil, u_lc, u_for, u_r1, u_r2, u_r3, u_num, u_notV, u_yes, u_w0, u_w1, u_dput, u_get2, u_dget, u_prop, u_fld, u_setF, u_make, u_makeS, u_met, u_calO, u_orT, u_tupIt, u_dc, u_maxDd, u_dnew, u_tupi, ix_p0, ix_p1, wSl, woNone, woSome]
    rw [if_neg (by decide +kernel), u_seq]
    simp only [u_asg, u_gN, u_ret, u_retN, u_skip, u_expr, u_ifs, u_c, u_op, u_neg, u_test, u_and, u_or, u_not, u_if, u_nil, u_cons, u_tup, u_lst, u_callP, u_call, u_b, u_chain, u_andV, u_addI, u_subI, u_mulI, u_divI, u_modI, u_powI, u_cmpI, u_eqI, u_eqS, u_eqB, u_abs, u_intI, u_intB, u_newT, u_newF, u_isN, u_notN, wVar, List.set_cons_zero, List.set_cons_succ, List.getElem?_cons_zero, List.getElem?_cons_succ, List.length_cons, List.length_nil, u_lc, u_for, u_r1, u_r2, u_r3, u_num, u_notV, u_yes, u_w0, u_w1, u_dput, u_get2, u_dget, u_prop, u_fld, u_setF, u_make, u_makeS, u_met, u_calO, u_orT, u_tupIt, u_dc, u_maxDd, u_dnew, u_tupi, ix_p0, ix_p1, wSl, woNone, woSome]
    rw [if_neg (by decide +kernel), u_seq]
    simp only [u_asg, u_gN, u_ret, u_retN, u_skip, u_expr, u_ifs, u_c, u_op, u_neg, u_test, u_and, u_or, u_not, u_if, u_nil, u_cons, u_tup, u_lst, u_callP, u_call, u_b, u_chain, u_andV, u_addI, u_subI, u_mulI, u_divI, u_modI, u_powI, u_cmpI, u_eqI, u_eqS, u_eqB, u_abs, u_intI, u_intB, u_newT, u_newF, u_isN, u_notN, wVar, List.set_cons_zero, List.set_cons_succ, List.getElem?_cons_zero, List.getElem?_cons_succ, List.length_cons, List.length_nil, u_lc, u_for, u_r1, u_r2, u_r3, u_num, u_notV, u_yes, u_w0, u_w1, u_dput, u_get2, u_dget, u_prop, u_fld, u_setF, u_make, u_makeS, u_met, u_calO, u_orT, u_tupIt, u_dc, u_maxDd, u_dnew, u_tupi, ix_p0, ix_p1, wSl, woNone, woSome]
    rw [if_pos (by decide +kernel)]
    simp only [wXFld, u_asg, u_gN, u_ret, u_retN, u_skip, u_expr, u_ifs, u_c, u_op, u_neg, u_test, u_and, u_or, u_not, u_if, u_nil, u_cons, u_tup, u_lst, u_callP, u_call, u_b, u_chain, u_andV, u_addI, u_subI, u_mulI, u_divI, u_modI, u_powI, u_cmpI, u_eqI, u_eqS, u_eqB, u_abs, u_intI, u_intB, u_newT, u_newF, u_isN, u_notN, wVar, List.set_cons_zero, List.set_cons_succ, List.getElem?_cons_zero, List.getElem?_cons_succ, List.length_cons, List.length_nil, u_lc, u_for, u_r1, u_r2, u_r3, u_num, u_notV, u_yes, u_w0, u_w1, u_dput, u_get2, u_dget, u_prop, u_fld, u_setF, u_make, u_makeS, u_met, u_calO, u_orT, u_tupIt, u_dc, u_maxDd, u_dnew, u_tupi, ix_p0, ix_p1, wSl, woNone, woSome]
    exact ⟨_, _, _, rfl, by simp, rfl, sz_le (show 1 ≤ 100000 by decide), fin_of q⟩
theorem p__law_heard (z : Ad) : ∀ d tl, MoK tl → ∀ h Q X, S__law_heard z tl h Q X → w__law_heard z d tl (endsD Q X) (startD 4 [d]) h := by
  intro d tl mt h Q X q
  show w__law_heard z d tl (endsD Q X) [some d, none, none, none] h
  unfold w__law_heard
  rw [u_seq, u_asg, u_c, u_gN]
  dsimp only [List.set_cons_zero, List.set_cons_succ]
  rw [u_seq, u_try]
  refine ⟨rfl, mt _ _ _ _ _ (fun d h' q => ?_) (fun x h' q => ?_) q⟩
  · show 1 ≤ sizeLine ∧ _
    exact ⟨sz_le (by decide), fin_of q⟩
  · obtain ⟨C, fs, w, v, rfl, hw, q⟩ := q
    refine ⟨by cases hw <;> simp [errs], ?_⟩
    dsimp only [List.replicate, List.set_cons_succ, List.set_cons_zero]
    rw [u_seq, u_asg]
    simp only [u_callP, u_cons, u_nil]
    rw [u_var rfl]
    refine ⟨rfl, C, fs, w, v, rfl, hw, ?_⟩
    try dsimp only
    rw [u_gN]
    dsimp only [List.set_cons_succ, List.set_cons_zero]
    rw [u_ret, u_b]
    simp only [u_cons, u_nil, u_op, u_lst]
    rw [u_var rfl]
    try dsimp only
    refine ⟨sz_le (show 1 ≤ 100000 by decide), ?_⟩
    rw [u_newF, u_callP]
    simp only [u_cons, u_nil]
    rw [u_var rfl]
    try dsimp only
    rw [u_var rfl]
    refine ⟨rfl, C, fs, w, v, rfl, hw, ?_⟩
    refine addL_go (show 2 ≤ 100000 by decide) ?_
    simp only [List.cons_append, List.nil_append]
    exact ⟨_, _, rfl, rfl, fin_of q⟩
end K26
namespace K26
open PySem PySem.Spec L2 C8 DL PK PL PQ PN PB F4 PR
theorem pw30 : PowOk 10 30 := ⟨by decide, by decide, by decide⟩
theorem pw6 : PowOk 10 6 := ⟨by decide, by decide, by decide⟩
theorem pw45 : PowOk 2 45 := ⟨by decide, by decide, by decide⟩
theorem p__law_offset (z : Ad) : ∀ ds h Q X, S__law_offset z ds h Q X → w__law_offset z (endsD Q X) (startD 1 ds) h := by
  rintro ds h Q X ⟨n, p, rfl, I, hn, q⟩
  show w__law_offset z (endsD Q X) [some (.ref p)] h
  replace I := Inv0.start I
  unfold w__law_offset
  simp only [u_ret, u_op, u_lst, u_cons, u_c, u_nil, u_callP]
  rw [u_var rfl]
  refine ⟨rfl, draw_go I (by omega) (div_ok (by decide) (by decide)) fun v1 o a1 b1 I _ => ?_⟩
  generalize up _ p o = g1 at I ⊢
  rw [u_var rfl]
  refine ⟨rfl, draw_go I (by omega) (div_ok (by decide) (by decide)) fun v2 o a2 b2 I _ => ?_⟩
  generalize up _ p o = g1 at I ⊢
  refine ⟨pw6, ?_⟩
  rw [show (10 : Int) ^ Int.toNat 6 = 1000000 from by decide]
  try dsimp only
  rw [u_var rfl]
  refine ⟨rfl, draw_go I (by omega) (div_ok (by decide) (by decide)) fun v3 o a3 b3 I _ => ?_⟩
  generalize up _ p o = g1 at I ⊢
  rw [u_subI]
  refine ⟨sz_le (show 4 ≤ 100000 by decide), ?_⟩
  rw [u_newF, u_var rfl]
  refine ⟨rfl, draw_go I (by omega) (div_ok (by decide) (by decide)) fun v4 o a4 b4 I _ => ?_⟩
  generalize up _ p o = g1 at I ⊢
  refine at_some (es := [v1, v2, 1000000 - v3, 2520]) a4 (by simpa using b4) fun u hu => ?_
  have hu : 0 ≤ u ∧ u ≤ 1000000 := by
    have : u = v1 ∨ u = v2 ∨ u = 1000000 - v3 ∨ u = 2520 := by simpa using hu
    omega
  obtain ⟨o', s1, s2⟩ := I.sub
  exact fin_sub s2 (q u o' hu.1 hu.2 (s1.mono (by omega)))
theorem p__law_amount (z : Ad) : ∀ ds h Q X, S__law_amount z ds h Q X → w__law_amount z (endsD Q X) (startD 2 ds) h := by
  rintro ds h Q X ⟨n, p, rfl, I, hn, q⟩
  show w__law_amount z (endsD Q X) [some (.ref p), none] h
  replace I := Inv0.start I
  unfold w__law_amount
  rw [u_seq, u_asg]
  simp only [u_ret, u_op, u_lst, u_cons, u_c, u_nil, u_callP, u_neg]
  rw [u_var rfl]
  refine ⟨rfl, draw_go I (by omega) (div_ok (by decide) (by decide)) fun v1 o a1 b1 I _ => ?_⟩
  generalize up _ p o = g1 at I ⊢
  rw [u_subI]
  refine ⟨pw30, ?_⟩
  generalize hM : (10 : Int) ^ Int.toNat 30 = M
  have hM : (10 : Int) ^ 30 = M := hM
  rw [u_var rfl]
  refine ⟨rfl, draw_go I (by omega) (div_ok (by decide) (by decide)) fun v2 o a2 b2 I _ => ?_⟩
  generalize up _ p o = g1 at I ⊢
  rw [u_subI]
  refine ⟨pw45, pw45, ?_⟩
  rw [show (2 : Int) ^ Int.toNat 45 = 35184372088832 from by decide]
  refine ⟨.inl ⟨by decide, by decide⟩, ?_⟩
  try dsimp only
  rw [u_subI]
  refine ⟨sz_le (show 2 ≤ 100000 by decide), ?_⟩
  rw [u_newF, u_var rfl]
  refine ⟨rfl, draw_go I (by omega) (div_ok (by decide) (by decide)) fun v3 o a3 b3 I _ => ?_⟩
  generalize up _ p o = g1 at I ⊢
  refine at_some (es := [1, -1]) a3 (by simpa using b3) fun u1 hu1 => ?_
  have hu1 : u1 = 1 ∨ u1 = -1 := by simpa using hu1
  refine ⟨sz_le (show 4 ≤ 100000 by decide), ?_⟩
  rw [u_newF, u_gN]
  dsimp only [List.set_cons_zero, List.set_cons_succ]
  simp only [u_ret, u_op, u_lst, u_cons, u_c, u_nil, u_callP, u_neg]
  rw [u_var rfl]
  try dsimp only
  refine ⟨sz_le (show 6 ≤ 100000 by decide), ?_⟩
  rw [u_newF, u_var rfl]
  refine ⟨rfl, draw_go I (by omega) (div_ok (by decide) (by decide)) fun v4 o a4 b4 I _ => ?_⟩
  generalize up _ p o = g1 at I ⊢
  refine at_some (es := [0, 0, 3, 3, 1, 2]) a4 (by simpa using b4) fun u2 hu2 => ?_
  have hu2 : 0 ≤ u2 ∧ u2 < 4 := by
    have : u2 = 0 ∨ u2 = 3 ∨ u2 = 1 ∨ u2 = 2 := by simpa using hu2
    omega
  refine at_some (es := [v1 - 3, M - v2, 0 - 35184372088832 * 35184372088832, u1]) hu2.1 (by simpa using hu2.2) fun u hu => ?_
  have hu : u.natAbs < 2 ^ 100 := by
    have : u = v1 - 3 ∨ u = M - v2 ∨ u = 0 - 35184372088832 * 35184372088832 ∨ u = u1 := by simpa using hu
    rw [← hM] at this
    omega
  obtain ⟨o', s1, s2⟩ := I.sub
  exact fin_sub s2 (q u o' hu (s1.mono (by omega)))
end K26
namespace K26
open PySem PySem.Spec L2 C8 DL PK PL PQ PN PB F4 PR
theorem at_neg1 {xs : List D} {x : D} : atI (xs ++ [x]) (-1) = some x := by
  have h1 : ixN (xs ++ [x]).length (-1) = some xs.length := by
    unfold ixN
    rw [if_neg (by decide), List.length_append]
    simp
    omega
  unfold atI
  rw [h1]
  simp
theorem pr0 {e : Int × Int} {h : AH} {Q : KD} : dIx (pairD e) (.int 0) h Q = Q (.int e.1) h := u_ixTd (xs := [D.int e.1, D.int e.2]) rfl
theorem pr1 {e : Int × Int} {h : AH} {Q : KD} : dIx (pairD e) (.int 1) h Q = Q (.int e.2) h := u_ixTd (xs := [D.int e.1, D.int e.2]) rfl
theorem p__law_rows (z : Ad) : ∀ ds h Q X, S__law_rows z ds h Q X → w__law_rows z (endsD Q X) (startD 5 ds) h := by
  rintro ds h Q X ⟨n, p, rfl, I, hn, q⟩
  show w__law_rows z (endsD Q X) [some (.ref p), some (.int 6), none, none, none] h
  replace I := Inv0.start I
  have big := DL.big_size
  unfold w__law_rows
  rw [u_seq, u_asg, u_lst]
  simp only [u_nil]
  refine ⟨sz_le (by decide), fun f hf => ?_⟩
  have f0 := I.fresh hf
  replace I := I.new (o := .lst []) hf
  have hf1 : (up h f (.lst [])) f = some (.lst (([] : Prs).map pairD)) := up_same
  try dsimp only
  rw [u_gN]
  dsimp only [List.set_cons_zero, List.set_cons_succ]
  generalize up h f (.lst []) = g1 at I hf1 ⊢
  rw [u_seq, u_for, u_r1]
  simp only [u_callP, u_cons, u_nil, u_op, u_c]
  rw [u_var rfl]
  try dsimp only
  rw [u_var rfl]
  try dsimp only
  rw [u_addI]
  refine ⟨rfl, draw_go I (by omega) (div_ok (by decide) (by decide)) fun many o a b I _ => ?_⟩
  have hf1 : (up g1 p o) f = some (.lst (([] : Prs).map pairD)) := by rw [up_ne f0.2]; exact hf1
  generalize up g1 p o = g1 at I hf1 ⊢
  obtain ⟨mn, rfl⟩ := Int.eq_ofNat_of_zero_le a
  try dsimp only
  refine ⟨by omega, by omega, ?_⟩
  rw [Int.toNat_natCast]
  refine loop_go (fun i ρ g => ∃ (rows : Prs) (r3 r4 : Option D), ρ = [some (.ref p), some (.int 6), some (.ref f), r3, r4] ∧ Inv0 h p (n + 1 + 9 * (i : Nat)) g ∧ g f = some (.lst (rows.map pairD)) ∧ rows.length = i ∧ InR rows ∧ ∀ e ∈ rows, e.2.natAbs < 2 ^ 100)
    ⟨[], none, none, rfl, by simpa using I, hf1, rfl, (fun e he => by cases he), (fun e he => by cases he)⟩ (fun _ _ _ _ => trivial) ?_ ?_
  · rintro i x ρ g K hi ⟨rows, r3, r4, rfl, I, hg, hl, hr, hs⟩ k
    obtain ⟨rfl, li⟩ := intsD_get hi
    try dsimp only
    rw [u_gN]
    dsimp only [List.set_cons_zero, List.set_cons_succ]
    rw [u_seq, u_asg, u_tup]
    simp only [u_callP, u_cons, u_nil, u_op, u_c]
    rw [u_var rfl]
    refine ⟨rfl, _, p, rfl, I.pen, by omega, fun v o v0 v1 po => ?_⟩
    have I2 := I.draw po
    have hg : (up g p o) f = some (.lst (rows.map pairD)) := by rw [up_ne f0.2]; exact hg
    generalize up g p o = g2 at I2 hg ⊢
    try dsimp only
    rw [u_var rfl]
    refine ⟨rfl, _, p, rfl, I2.pen, by omega, fun u o u0 po => ?_⟩
    have I3 := I2.draw po
    have hg : (up g2 p o) f = some (.lst (rows.map pairD)) := by rw [up_ne f0.2]; exact hg
    generalize up g2 p o = g3 at I3 hg ⊢
    refine ⟨sz_le (show 2 ≤ 100000 by decide), ?_⟩
    try dsimp only
    rw [u_gN]
    dsimp only [List.set_cons_zero, List.set_cons_succ]
    refine seq_go (fun ρ h' => ∃ e : Int × Int, ρ = [some (.ref p), some (.int 6), some (.ref f), some (.int (0 + (i : Nat))), some (pairD e)] ∧ Inv0 h p (n + 1 + 9 * ((i + 1 : Nat) : Int)) h' ∧ h' f = some (.lst (rows.map pairD)) ∧ 0 ≤ e.1 ∧ e.1 ≤ 1000000 ∧ e.2.natAbs < 2 ^ 100) (fun K k => ?_) ?_
    · have done : ∀ (e : Int × Int) g4, Inv0 h p (n + 1 + 9 * ((i + 1 : Nat) : Int)) g4 → g4 f = some (.lst (rows.map pairD)) → 0 ≤ e.1 → e.1 ≤ 1000000 → e.2.natAbs < 2 ^ 100 → K [some (.ref p), some (.int 6), some (.ref f), some (.int (0 + (i : Nat))), some (pairD e)] g4 := fun e g4 h1 h2 h3 h4 h5 => k _ _ ⟨e, rfl, h1, h2, h3, h4, h5⟩
      simp only [u_asg, u_gN, u_ret, u_retN, u_skip, u_expr, u_ifs, u_c, u_op, u_neg, u_test, u_and, u_or, u_not, u_if, u_nil, u_cons, u_tup, u_lst, u_callP, u_call, u_b, u_chain, u_andV, u_addI, u_subI, u_mulI, u_divI, u_modI, u_powI, u_cmpI, u_eqI, u_eqS, u_eqB, u_abs, u_intI, u_intB, u_newT, u_newF, u_isN, u_notN, wVar, List.set_cons_zero, List.set_cons_succ, List.getElem?_cons_zero, List.getElem?_cons_succ, List.length_cons, List.length_nil, u_lc, u_for, u_r1, u_r2, u_r3, u_num, u_notV, u_yes, u_w0, u_w1, u_dput, u_get2, u_dget, u_prop, u_fld, u_setF, u_make, u_makeS, u_met, u_calO, u_orT, u_tupIt, u_dc, u_maxDd, u_dnew, u_tupi, ix_p0, ix_p1, wSl, woNone, woSome]
      refine ⟨Nat.zero_le _, nil_ref hg (fl_lst (fl_pairs rows)) (by decide) ?_⟩
      try dsimp only
      cases rows with
      | nil =>
        rw [if_neg (by decide), if_neg (by decide)]
        exact done (v, u) _ (I3.mono (by omega)) hg v0 v1 u0
      | cons r rs =>
        rw [if_pos (show (!(List.map pairD (r :: rs)).isEmpty) = true from rfl)]
        refine ⟨trivial, draw_go I3 (by omega) (div_ok (by decide) (by decide)) fun w o a b I4 _ => ?_⟩
        have hg : (up g3 p o) f = some (.lst ((r :: rs).map pairD)) := by rw [up_ne f0.2]; exact hg
        generalize up g3 p o = g4 at I4 hg ⊢
        rw [u_eqI]
        try dsimp only
        by_cases c : w = 0
        · rw [if_pos (decide_eq_true c)]
          obtain ⟨fs, e, he⟩ : ∃ fs e, r :: rs = fs ++ [e] := ⟨(r :: rs).dropLast, (r :: rs).getLast (by simp), (List.dropLast_concat_getLast (by simp)).symm⟩
          have em : e ∈ r :: rs := by rw [he]; simp
          have re := hr e em
          have se := hs e em
          have at1 : atI ((r :: rs).map pairD) (-1) = some (pairD e) := by rw [he, List.map_append]; exact at_neg1
          rw [u_ixRd hg at1, pr0, u_ixRd hg at1, pr1, u_subI]
          refine ⟨sz_le (show 2 ≤ 100000 by decide), ?_⟩
          exact done (e.1, 0 - e.2) _ (I4.mono (by omega)) hg re.1 re.2 (by show (0 - e.2).natAbs < _; omega)
        · rw [if_neg (by rw [decide_eq_false c]; decide)]
          exact done (v, u) _ (I4.mono (by omega)) hg v0 v1 u0
    rintro _ g4 ⟨e, rfl, I4, hg, e0, e1, e2⟩
    simp only [wMethT, u_asg, u_gN, u_ret, u_retN, u_skip, u_expr, u_ifs, u_c, u_op, u_neg, u_test, u_and, u_or, u_not, u_if, u_nil, u_cons, u_tup, u_lst, u_callP, u_call, u_b, u_chain, u_andV, u_addI, u_subI, u_mulI, u_divI, u_modI, u_powI, u_cmpI, u_eqI, u_eqS, u_eqB, u_abs, u_intI, u_intB, u_newT, u_newF, u_isN, u_notN, wVar, List.set_cons_zero, List.set_cons_succ, List.getElem?_cons_zero, List.getElem?_cons_succ, List.length_cons, List.length_nil, u_lc, u_for, u_r1, u_r2, u_r3, u_num, u_notV, u_yes, u_w0, u_w1, u_dput, u_get2, u_dget, u_prop, u_fld, u_setF, u_make, u_makeS, u_met, u_calO, u_orT, u_tupIt, u_dc, u_maxDd, u_dnew, u_tupi, ix_p0, ix_p1, wSl, woNone, woSome]
    refine ⟨⟨_, lst_ref hg⟩, f, _, _, rfl, rfl, hg, ?_, ?_⟩
    · rw [List.length_map]; exact Nat.lt_of_lt_of_le (show rows.length < 100000 by omega) big
    refine k _ _ ⟨rows ++ [e], _, _, rfl, I4.put f0.1, by rw [up_same, List.map_append]; rfl, by rw [List.length_append, hl]; rfl, hr.append fun x hx => ?_, fun x hx => ?_⟩
    · rw [List.mem_singleton] at hx; rw [hx]; exact ⟨e0, e1⟩
    · rcases List.mem_append.mp hx with hx | hx
      · exact hs x hx
      · rw [List.mem_singleton] at hx; rw [hx]; exact e2
  · rintro ρ g ⟨rows, r3, r4, rfl, I, hg, hl, hr, hs⟩
    rw [intsD_len] at I hl
    try dsimp only
    rw [u_ret, u_var rfl]
    obtain ⟨o', s1, s2⟩ := I.sub
    exact ⟨_, _, .lst hg (by rw [up_ne f0.2]; exact f0.1) s2, q rows o' ⟨hr, by omega, hs⟩ (s1.mono (by omega))⟩
end K26
namespace PySem
open Sem (wp)
section
variable {prog : Program} {w : World} {A : Around} {E : Value → Shared → Prop} {s : Shared}
/-- bool(x), its making said of this program alone -/
theorem call_bool_at {x : Value} {Q : Value → Shared → Prop}
    (h : wpAny (model prog w) A.in1.in1 (Builtin.«bool.__new__» ⟨[.type "bool", x], []⟩) (fun fin s' => match fin with | .done f => (wants (fun obj s₁ => s₁.TypeIs obj "bool" ∧ Q obj s₁) E) (.ok f) s' | .again c' => c'.quiet = true ∧ codeAny (model prog w) A.in1 c' (wants (fun obj s₁ => s₁.TypeIs obj "bool" ∧ Q obj s₁) E) s') (fun e s' => (wants (fun obj s₁ => s₁.TypeIs obj "bool" ∧ Q obj s₁) E) (.error e) s') s) :
    wpAny (model prog w) A (call (.type "bool") [x]) Q E s := by
  have ft := F.called_bool
  obtain ⟨c, tl, hmro⟩ := ft.mro
  have hmade := ft.made
  have hsub := ft.sub
  have hct := F.typeCall_bool_1 x
  refine wpAny_call (codeAny_of_tree ?_)
  show wpAny _ _ (callAny (.type "bool") _) _ _ _
  refine wpAny_pure ⟨Code.quiet_builtin _ (by decide +kernel), codeAny_builtin F.entry_type_call ?_⟩
  rw [Around.under_plain (weight_type_call_type "bool" [x] []) (units_type_call_type "bool" [x] [])]
  have h1 := ft.notType
  have h2 := ft.canCreate
  repeat (any_goals (first | assumption | wp_step))
  refine codeAny_mono (codeAny_call_builtin ft.plain F.entry_bool_new (wpAny_of_eq (F.newCall_bool_1 x) h)) fun r s₁ hr => ?_
  cases r with
  | error e => exact hr
  | ok fl =>
    cases fl with
    | ret obj =>
      obtain ⟨hT, hq⟩ := hr
      have hli := ft.init.lookup
      have hbi := ft.init.bind obj
      repeat (any_goals (first | assumption | wp_step))
      refine codeAny_mono (codeAny_call_builtin ft.init.plain F.entry_object_init (ft.init.check _ _ _ _ _ _ _ _ hT (F.args_object_init_2 obj x) (object_init_meets ft.init.lookup ft.made F.newNe_bool prog w A.in1 (wants (fun r s₂ => r = .none ∧ Q obj s₂) E) s₁ ⟨hT, rfl, hq⟩))) fun r₂ s₂ hr₂ => ?_
      cases r₂ with
      | error e => exact hr₂
      | ok fl₂ =>
        cases fl₂ with
        | ret r =>
          obtain ⟨rfl, hq⟩ := hr₂
          repeat (any_goals (first | assumption | wp_step))
        | _ => exact hr₂.elim
    | _ => exact hr.elim
/-- .. its truth known -/
theorem call_bool_tru {x : Value} {Q : Value → Shared → Prop} (h : wpAny (model prog w) A.in1.in1 (truthy x) (fun b s' => Q (.bool b) s') E s) : wpAny (model prog w) A (call (.type "bool") [x]) Q E s := by
  refine call_bool_at ?_
  have f1 := F.conv_sub_bool
  have h' := h
  repeat (any_goals (first | assumption | (with_reducible refine wpAny_mono h (fun b s' hb => ?_) (fun _ _ e => e)) | wp_step))
  all_goals exact ⟨rfl, hb⟩
end
end PySem
namespace DL
open PySem PySem.Spec L2 C8 PyProof.Rows
/-! ### bool(x) of an instance, by its __len__ -/
def dBoolO (C : Addr) (S : FSpec) (ds : List D) (h : AH) (Q : KD) : Prop := ∃ x, ds = [x] ∧ isI C x h ∧ S [x] h (fun d h2 => ∃ n : Nat, d = .int (n : Nat) ∧ n < 2 ^ 62 ∧ Q (.bl (decide (n ≠ 0))) h2) (fun _ _ => False)
section
variable {X : Cx} {E : XK} {gz : Bool} {k j : Nat} {C : Addr} {S : FSpec}
theorem dBoolO_ok (c : Cg gz X E k) (R : LenC X.prog X.w X.K X.mg X.base C j S) (hj : j + 3 ≤ k) : CaD X (.type "bool") (dBoolO C S) where
  ex := by
    obtain ⟨g, hb, hs, hf, G⟩ := R.ex
    refine ⟨fun vs H Q => ∃ a dx ws, vs = [V.ref a] ∧ H a = some (.ins C dx ws) ∧ spD X.K S [V.ref a] H (fun z H2 => ∃ n : Nat, z = .int (n : Nat) ∧ n < 2 ^ 62 ∧ Q (.bl (decide (n ≠ 0))) H2) L2.E0, ?_, ?_⟩
    · intro pins s σ H xs us Q I r h
      obtain ⟨a, dx, ws, rfl, hi, q1⟩ := h
      obtain ⟨u, rfl, ru⟩ := vals1 r
      obtain rfl : u = Value.ref a := ru
      obtain ⟨ox, od, J⟩ := ins_at I hi
      refine call_bool_tru (tru_own I.kIn J hb hs hf (wpAny_mono (wpAny_call (SlX.run_at (us := [.ref a]) (ws := [.ref a]) G (Room.in1 (Room.in1 (Room.in1 (c.room.mono hj)))) I.env0.in1.in1.in1 pass_no I (.cons rfl .nil) q1)) (fun w s' z => ?_) fun _ _ x => x))
      obtain ⟨z', H', I', rz, n, ei, hn, qz⟩ := z
      subst ei
      obtain ⟨t, e⟩ := (show ∃ t, w = Value.int n t from rz)
      cases e
      exact ⟨n, t, rfl, hn, fun tk => ⟨.bl _, H', I'.tok _, rfl, qz⟩⟩
    · rintro F h H ds vs Q S0 r ⟨x, rfl, ⟨fs, ei⟩, z⟩
      obtain ⟨v, rfl, r1⟩ := r.one
      obtain ⟨a, dx, ws, rfl, hi, _⟩ := S0.insOf r1 ei
      refine ⟨a, dx, ws, rfl, hi, F, _, h, S0, .cons r1 .nil, R.mo _ _ _ _ _ _ (fun d h2 z => ?_) (fun _ _ z => z.elim) z⟩
      obtain ⟨n, rfl, hn, z⟩ := z
      intro F2 H2 v e2 S2 rv
      cases rv
      exact ⟨n, rfl, hn, z F2 H2 _ e2 S2 (.bl _)⟩
  mo := fun hq ⟨x, e, i, z⟩ => ⟨x, e, i, R.mo _ _ _ _ _ _ (fun d h2 ⟨n, e, l, z⟩ => ⟨n, e, l, hq _ _ z⟩) (fun _ _ z => z) z⟩
theorem u_boolO {x : D} {h : AH} {Q : KD} : dBoolO C S [x] h Q = (isI C x h ∧ S [x] h (fun d h2 => ∃ n : Nat, d = .int (n : Nat) ∧ n < 2 ^ 62 ∧ Q (.bl (decide (n ≠ 0))) h2) (fun _ _ => False)) := by
  unfold dBoolO
  refine propext ⟨?_, fun q => ⟨x, rfl, q⟩⟩
  rintro ⟨y, e, q⟩
  cases e; exact q
end
end DL
namespace DL
open PySem PySem.Spec L2 C8 PyProof.Rows
/-! ### not x as a value, x an instance with a __len__ -/
def wNotO (C : Addr) (S : FSpec) (wa : WE) : WE := fun ρ h Q X => wa ρ h (fun x h1 => isI C x h1 ∧ S [x] h1 (fun d h2 => ∃ n : Nat, d = .int (n : Nat) ∧ n < 2 ^ 62 ∧ Q (.bl (!decide (n ≠ 0))) h2) X) X
section
variable {X : Cx} {E : XK} {gz : Bool} {k j : Nat} {a : Expr} {wa : WE} {C : Addr} {S : FSpec} {pos : Pos}
theorem ag_notO (c : Cg gz X E k) (R : LenC X.prog X.w X.K X.mg X.base C j S) (hj : j + 1 ≤ k) (ha : AE X E a wa) : AE X E (.UnaryOp .Not a pos) (wNotO C S wa) := by
  obtain ⟨g, hb, hs, hf, G⟩ := R.ex
  refine ⟨⟨fun pins s σ H Q I hq => ?_⟩, fun ρ h Q Q' X X' hq hx q => ha.mo _ _ _ _ _ _ (fun x h1 z => ⟨z.1, R.mo _ _ _ _ _ _ (fun d h2 ⟨n, e, l, z⟩ => ⟨n, e, l, hq _ _ z⟩) hx z.2⟩) hx q⟩
  obtain ⟨F, ρ, h, S0, R0, q⟩ := hq
  refine UnaryOp_ (thn (ha.run.run pins s σ H (fun y H1 => ∃ a dx vs, y = V.ref a ∧ H1 a = some (.ins C dx vs) ∧ spD X.K S [V.ref a] H1 (fun z H2 => ∃ n : Nat, z = .int n ∧ n < 2 ^ 62 ∧ Q (.bl (!decide (n ≠ 0))) H2) E) I
    ⟨F, ρ, h, S0, R0, ha.mo _ _ _ _ _ _ (fun y h1 z F1 H1 v e1 S1 r => ?_) (fun _ _ z => z) q⟩) fun v s1 ⟨y, H1, I1, ry, a, dx, vs, ey, hi, q1⟩ => ?_)
  · obtain ⟨⟨fs, ei⟩, z⟩ := z
    obtain ⟨a, dx, vs, rfl, hi, _⟩ := S1.insOf r ei
    refine ⟨a, dx, vs, rfl, hi, F1, _, h1, S1, .cons r .nil, R.mo _ _ _ _ _ _ (fun d h2 z => ?_) (fun _ _ z => LX.ext e1 z) z⟩
    obtain ⟨n, rfl, hn, z⟩ := z
    intro F2 H2 v e2 S2 rv
    cases rv
    exact ⟨n, rfl, hn, z F2 H2 _ (e1.trans e2) S2 (.bl _)⟩
  · subst ey
    obtain rfl : v = Value.ref a := ry
    obtain ⟨mA, J, _⟩ := ins_get I1.hok hi
    obtain ⟨od, J, _⟩ := J.look
    refine not_of (tru_own I1.kIn J hb hs hf (wpAny_mono (wpAny_call (SlX.run_at (us := [.ref a]) (ws := [.ref a]) G (Room.in1 (c.room.mono hj)) I1.env0.in1 c.ps I1 (.cons rfl .nil) q1)) (fun w s' z => ?_) fun _ _ x => x))
    obtain ⟨z', H', I', rz, n, ei, hn, qz⟩ := z
    subst ei
    obtain ⟨t, e⟩ := (show ∃ t, w = Value.int n t from rz)
    cases e
    exact ⟨n, t, rfl, hn, fun tk => ⟨.bl _, H', I'.tok _, rfl, qz⟩⟩
theorem u_notO {ρ : EnvD} {h : AH} {Q : KD} {X : KX} : wNotO C S wa ρ h Q X = wa ρ h (fun x h1 => isI C x h1 ∧ S [x] h1 (fun d h2 => ∃ n : Nat, d = .int (n : Nat) ∧ n < 2 ^ 62 ∧ Q (.bl (!decide (n ≠ 0))) h2) X) X := rfl
end
end DL
namespace DL
open PySem PySem.Spec L2 C8 PyProof.Rows
/-! ### repr(x) of an instance, by its __repr__ -/
def dReprO (C : Addr) (S : FSpec) (ds : List D) (h : AH) (Q : KD) : Prop := ∃ x, ds = [x] ∧ isI C x h ∧ S [x] h (fun d h2 => ∃ s : Str, d = .str s ∧ Q (.str s) h2) (fun _ _ => False)
section
variable (P : Program) (w : World) (K : PySem.W.Frag) (mg : Str → Option Value) (base : Heap)
structure ReprC (C : Addr) (k : Nat) (S : FSpec) : Prop where
  ex : ∃ g, PySem.W.findIn K (.ref C) "__repr__" = some (some (.ref g)) ∧ PySem.W.isFn K (.ref g) = true ∧ FnRD P w K mg base k g S
  mo : MoF S
end
section
variable {X : Cx} {E : XK} {gz : Bool} {k j : Nat} {C : Addr} {S : FSpec}
theorem dReprO_ok (c : Cg gz X E k) (R : ReprC X.prog X.w X.K X.mg X.base C j S) (hj : j + 1 ≤ k) : CaD X (.builtin "repr") (dReprO C S) where
  ex := by
    obtain ⟨g, hs, hf, G⟩ := R.ex
    refine ⟨fun vs H Q => ∃ a dx ws, vs = [V.ref a] ∧ H a = some (.ins C dx ws) ∧ spD X.K S [V.ref a] H (fun z H2 => ∃ s : Str, z = .str s ∧ Q (.str s) H2) L2.E0, ?_, ?_⟩
    · intro pins s σ H xs us Q I r h
      obtain ⟨a, dx, ws, rfl, hi, q1⟩ := h
      obtain ⟨u, rfl, ru⟩ := vals1 r
      obtain rfl : u = Value.ref a := ru
      obtain ⟨ox, od, J⟩ := ins_at I hi
      obtain ⟨mm, hF⟩ := I.fr
      refine PySem.W.repr_K (by have := c.room.un; show X.A.units + 1 < _; omega) hF I.ok.mod.kin J hs hf (wpAny_mono (wpAny_call (SlX.run_at (us := [.ref a]) (ws := [.ref a]) G (Room.in1 (c.room.mono hj)) I.env0.in1 pass_no I (.cons rfl .nil) q1)) (fun w s' z => ?_) fun _ _ x => x)
      obtain ⟨z', H', I', rz, y, ei, qz⟩ := z
      subst ei
      obtain ⟨t, e⟩ := (show ∃ t, w = Value.str y t from rz)
      cases e
      exact ⟨.str y, H', I', ⟨_, rfl⟩, qz⟩
    · rintro F h H ds vs Q S0 r ⟨x, rfl, ⟨fs, ei⟩, z⟩
      obtain ⟨v, rfl, r1⟩ := r.one
      obtain ⟨a, dx, ws, rfl, hi, _⟩ := S0.insOf r1 ei
      refine ⟨a, dx, ws, rfl, hi, F, _, h, S0, .cons r1 .nil, R.mo _ _ _ _ _ _ (fun d h2 z => ?_) (fun _ _ z => z.elim) z⟩
      obtain ⟨y, rfl, z⟩ := z
      intro F2 H2 v e2 S2 rv
      cases rv
      exact ⟨y, rfl, z F2 H2 _ e2 S2 (.str _)⟩
  mo := fun hq ⟨x, e, i, z⟩ => ⟨x, e, i, R.mo _ _ _ _ _ _ (fun d h2 ⟨n, e, z⟩ => ⟨n, e, hq _ _ z⟩) (fun _ _ z => z) z⟩
theorem u_reprO {x : D} {h : AH} {Q : KD} : dReprO C S [x] h Q = (isI C x h ∧ S [x] h (fun d h2 => ∃ s : Str, d = .str s ∧ Q (.str s) h2) (fun _ _ => False)) := by
  unfold dReprO
  refine propext ⟨?_, fun q => ⟨x, rfl, q⟩⟩
  rintro ⟨y, e, q⟩
  cases e; exact q
end
end DL
/-! isinstance by a table: which type's values are instances of which own class -/
namespace DL
open PySem PySem.Spec L2 C8 PyProof.Rows
abbrev ITab := List (D × Addr × Bool)
def ITabOk (K : PySem.W.Frag) (M : ITab) : Prop := ∀ p ∈ M, (∃ n, p.1 = .ty n ∧ PySem.W.kitOne K (.type n) (.ref p.2.1) = some p.2.2) ∨ ∃ D, p.1 = .ref D ∧ IsiC K D ∧ PySem.W.kitOne K (.ref D) (.ref p.2.1) = some p.2.2
/-- the type of a value, own classes too -/
def tyI (h : AH) (x : D) : Option D := match insOf h x with
  | some (C, _) => some (.ref C)
  | none => (tyD h x).map .ty
def dIsiS (M : ITab) (ds : List D) (h : AH) (Q : KD) : Prop := ∃ x C t b, ds = [x, .ref C] ∧ tyI h x = some t ∧ (t, C, b) ∈ M ∧ Q (.bl b) h
section
variable {X : Cx}
theorem dIsiS_ok {M : ITab} (ok : ITabOk X.K M) : CaD X (.builtin "isinstance") (dIsiS M) where
  ex := ⟨_, call_isi, fun {F h H ds vs Q} S r q => by
    obtain ⟨x, C, t, b, rfl, et, hm, q⟩ := q
    obtain ⟨v, w, rfl, r1, r2⟩ := r.two
    cases r2
    unfold tyI at et
    rcases ok _ hm with ⟨n, e, ek⟩ | ⟨D, e, c, ek⟩
    · dsimp only at e ek
      subst e
      cases hi : insOf h x with
      | some p => rw [hi] at et; cases et
      | none =>
        rw [hi] at et
        cases ht : tyD h x with
        | none => rw [ht] at et; cases et
        | some n' =>
          rw [ht] at et
          cases et
          exact ⟨v, .ref C, .type n, .ref C, b, rfl, .own C, S.tyD r1 ht, ek, q.at S (.bl _)⟩
    · dsimp only at e ek
      subst e
      cases hi : insOf h x with
      | none =>
        rw [hi] at et
        cases ht : tyD h x with
        | none => rw [ht] at et; cases et
        | some n' => rw [ht] at et; cases et
      | some p =>
        rw [hi] at et
        obtain ⟨C', fs⟩ := p
        cases et
        obtain ⟨a, dx, us, rfl, ha, _⟩ := S.insOf r1 hi
        exact ⟨_, .ref C, .ref D, .ref C, b, rfl, .own C, .base (.ins ha c.cl c.ha c.hn c.ht c.hm), ek, q.at S (.bl _)⟩⟩
  mo := fun {ds h Q Q'} hq ⟨x, C, t, b, e, e1, e2, q⟩ => ⟨x, C, t, b, e, e1, e2, hq _ _ q⟩
theorem isS_ins {M : ITab} {x : D} {C D' : Addr} {fs : List (Str × D)} {b : Bool} {h : AH} {Q : KD} (e : insOf h x = some (D', fs)) (m : (.ref D', C, b) ∈ M) (q : Q (.bl b) h) : dIsiS M [x, .ref C] h Q := ⟨x, C, _, b, rfl, by unfold tyI; rw [e], m, q⟩
theorem isS_ty {M : ITab} {x : D} {C : Addr} {n : String} {b : Bool} {h : AH} {Q : KD} (e : insOf h x = none) (e2 : tyD h x = some n) (m : (.ty n, C, b) ∈ M) (q : Q (.bl b) h) : dIsiS M [x, .ref C] h Q := ⟨x, C, _, b, rfl, by unfold tyI; rw [e, e2]; rfl, m, q⟩
end
end DL
namespace DL
open PySem PySem.Spec L2 C8 PyProof.Rows
/-! ### x == y, x != y: x an instance with a written __eq__, y such an instance or data -/
def tyNs : List String := ["NoneType", "bool", "int", "str", "tuple", "list", "dict"]
theorem tyD_ns {h : AH} {x : D} {n : String} (e : tyD h x = some n) : n ∈ tyNs := by
  unfold tyD at e
  split at e <;> first | (cases e; decide) | cases e
def rOwnA (K : PySem.W.Frag) (C : Addr) (f : Bool → Bool) (sp : Sp) : R2 := fun x y H Q => ∃ a dx fs t, x = .ref a ∧ H a = some (.ins C dx fs) ∧ TyX K H y t ∧ PySem.W.notFirst K C t = true ∧ sp [x, y] H (fun v H' => ∃ t, v = .bl t ∧ Q (.bl (f t)) H') L2.E0
section
variable (P : Program) (w : World) (K : PySem.W.Frag) (mg : Str → Option Value) (base : Heap)
structure EqAC (C : Addr) (k : Nat) (S : FSpec) : Prop where
  eq : EqC P w K mg base C k S
  ic : IsiC K C
  nt : ∀ n ∈ tyNs, PySem.W.subIn K (.type n) (.ref C) = some false
end
section
variable {X : Cx} {E : XK} {gz : Bool} {k j : Nat} {a b : Expr} {wa wb : WE} {pos : Pos} {C g : Addr} {S : FSpec}
theorem op_ownEqA (hs : PySem.W.findIn X.K (.ref C) "__eq__" = some (some (.ref g))) (hf : PySem.W.isFn X.K (.ref g) = true) (G : FnRD X.prog X.w X.K X.mg X.base j g S) (hr : Room j X.A) :
    OpR X (compareOp .Eq) (rOwnA X.K C (fun b => b) fun vs H Q E => spD X.K S vs H Q E) := by
  intro pins s σ H x y v u Q I rx ry h
  obtain ⟨p, dx, fs, t, rfl, hp, ty, hn, z⟩ := h
  cases (show v = Value.ref p from rx)
  obtain ⟨ox, od, J⟩ := ins_at I hp
  obtain ⟨P, Z, hP, _⟩ := kit_of I ry ty
  obtain ⟨mm, hF⟩ := I.fr
  show wpAny (model X.prog X.w) X.A (richCompare .Eq _ _) (EP X pins σ Q) X.xe s
  refine PySem.W.cmp_K (op := .Eq) (tb := t) hr.units0 hF I.ok.mod.kin J (Z.ty _ _ I.kIn hP) hn hs hf (wpAny_mono (wpAny_call (run_fnR (us := [.ref p, u]) (vs := [.ref p, y]) G hr pass_no I (.cons rfl (.cons ry .nil)) z)) (fun w s' z => ?_) fun _ _ x => x)
  obtain ⟨z', H', I', rz, t, et, qz⟩ := z
  subst et
  cases rz
  exact ⟨.bl t, H', I', rfl, qz⟩
theorem op_ownNeA (hm : PySem.W.mroIn X.K C (.type "object") = some true) (hne : PySem.W.findIn X.K (.ref C) "__ne__" = some (some (.builtin "object.__ne__"))) (hs : PySem.W.findIn X.K (.ref C) "__eq__" = some (some (.ref g))) (hf : PySem.W.isFn X.K (.ref g) = true) (G : FnRD X.prog X.w X.K X.mg X.base j g S) (hr : Room (j + 1) X.A) :
    OpR X (compareOp .NotEq) (rOwnA X.K C (fun b => !b) fun vs H Q E => spD X.K S vs H Q E) := by
  intro pins s σ H x y v u Q I rx ry h
  obtain ⟨p, dx, fs, t, rfl, hp, ty, hn, z⟩ := h
  cases (show v = Value.ref p from rx)
  obtain ⟨ox, od, J⟩ := ins_at I hp
  obtain ⟨P, Z, hP, _⟩ := kit_of I ry ty
  obtain ⟨mm, hF⟩ := I.fr
  show wpAny (model X.prog X.w) X.A (richCompare .NotEq _ _) (EP X pins σ Q) X.xe s
  refine ne_K (tb := t) hr.units0 hr.in1.units0 hF I.ok.mod.kin J (Z.ty _ _ I.kIn hP) hn hm hne hs hf (wpAny_mono (wpAny_call (SlX.run_at (us := [.ref p, u]) (ws := [.ref p, y]) G hr.in1 I.env0.in1 pass_no I (.cons rfl (.cons ry .nil)) z)) (fun w s' z => ?_) fun _ _ x => x)
  obtain ⟨z', H', I', rz, t, et, qz⟩ := z
  subst et
  cases rz
  exact ⟨t, rfl, .bl (!t), H', I', rfl, qz⟩
def dOwnA (C : Addr) (S : FSpec) (f : Bool → Bool) (x y : D) (h : AH) (Q : KD) : Prop := isI C x h ∧ (isI C y h ∨ ∃ n, tyD h y = some n) ∧ S [x, y] h (fun d h' => ∃ t, d = .bl t ∧ Q (.bl (f t)) h') (fun _ _ => False)
theorem dOwnA_ok {K : PySem.W.Frag} {f : Bool → Bool} (mo : MoF S) (c : IsiC K C) (nt : ∀ n ∈ tyNs, PySem.W.subIn K (.type n) (.ref C) = some false) : OpD K (rOwnA K C f fun vs H Q E => spD K S vs H Q E) (dOwnA C S f) where
  to := by
    rintro F h H x y vx vy Q S0 rx ry ⟨⟨fs, ex⟩, ey, q⟩
    obtain ⟨p, dx, us, rfl, hp, _⟩ := S0.insOf rx ex
    have : ∃ t, TyX K H vy t ∧ PySem.W.notFirst K C t = true := by
      rcases ey with ⟨gs, ey⟩ | ⟨n, ey⟩
      · obtain ⟨r, dy, ws, rfl, hq, _⟩ := S0.insOf ry ey
        exact ⟨.ref C, .base (.ins hq c.cl c.ha c.hn c.ht c.hm), by simp [PySem.W.notFirst]⟩
      · exact ⟨_, S0.tyD ry ey, by unfold PySem.W.notFirst; rw [nt n (tyD_ns ey)]; simp⟩
    obtain ⟨t, ty, hn⟩ := this
    refine ⟨p, dx, us, t, rfl, hp, ty, hn, F, _, h, S0, .cons rx (.cons ry .nil), mo _ _ _ _ _ _ (fun d h' z => ?_) (fun _ _ z => z.elim) q⟩
    obtain ⟨t, rfl, z⟩ := z
    intro F1 H1 v e1 S1 r1
    cases r1
    exact ⟨t, rfl, z F1 H1 _ e1 S1 (.bl _)⟩
  mo := fun hq ⟨a, b, q⟩ => ⟨a, b, mo _ _ _ _ _ _ (fun _ _ ⟨t, e, z⟩ => ⟨t, e, hq _ _ z⟩) (fun _ _ z => z) q⟩
theorem ag_ownEqAT (c : Cg gz X E k) (R : EqAC X.prog X.w X.K X.mg X.base C j S) (hj : j + 1 ≤ k) (ha : AE X E a wa) (hb : AE X E b wb) (hm : behindInMarks .Eq b = false := by first | exact nobehind _ (by decide) (by decide) | rfl) : AT X E (.Compare a [.Eq] [b] pos) (wTest (wOp (dOwnA C S fun b => b) wa wb)) := by
  obtain ⟨g, h1, h2, h3, h4, h5⟩ := R.eq.ex
  exact at_cmp (dOwnA_ok R.eq.mo R.ic R.nt) (op_ownEqA h1 h2 (h5.mono (Nat.le_trans (Nat.le_succ _) hj)) c.room) ha hb hm
theorem ag_ownNeAT (c : Cg gz X E k) (R : EqAC X.prog X.w X.K X.mg X.base C j S) (hj : j + 1 ≤ k) (ha : AE X E a wa) (hb : AE X E b wb) (hm : behindInMarks .NotEq b = false := by first | exact nobehind _ (by decide) (by decide) | rfl) : AT X E (.Compare a [.NotEq] [b] pos) (wTest (wOp (dOwnA C S fun b => !b) wa wb)) := by
  obtain ⟨g, h1, h2, h3, h4, h5⟩ := R.eq.ex
  exact at_cmp (dOwnA_ok R.eq.mo R.ic R.nt) (op_ownNeA h3 h4 h1 h2 h5 (c.room.mono hj)) ha hb hm
end
end DL
/-! f-strings of texts and ints -/
namespace DL
open PySem PySem.Spec L2 C8
section
variable {X : Cx} {E : XK} {e : Expr} {es : List Expr} {we : WE} {ws : List WE} {pos : Pos}
/-- {e}: a text or an int, as a text -/
def wFmt (we : WE) : WE := fun ρ h Q X => we ρ h (fun x h1 => (∃ y : Str, x = .str y ∧ y.length ≤ sizeLine ∧ Q (.str y) h1) ∨ ∃ i : Int, x = .int i ∧ i.natAbs.log2 < 1920 ∧ Q (.str (toString i)) h1) X
theorem ae_fmt (he : AE X E e we) : AE X E (.FormattedValue e (-1) none pos) (wFmt we) := by
  refine ⟨PE.imp (pe_fmt he.run) fun σ H Q ⟨F, ρ, h, S, R, q⟩ => ?_, fun ρ h Q Q' X X' hq hx q => he.mo _ _ _ _ _ _ (fun x h1 z => ?_) hx q⟩
  · refine ⟨F, ρ, h, S, R, he.mo _ _ _ _ _ _ (fun x h1 z => ?_) (fun _ _ z => z) q⟩
    intro F1 H1 v e1 S1 r
    rcases z with ⟨y, rfl, l, z⟩ | ⟨i, rfl, l, z⟩
    · cases r; exact .inl ⟨y, rfl, l, z F1 H1 _ e1 S1 (.str _)⟩
    · cases r; exact .inr ⟨i, rfl, l, z F1 H1 _ e1 S1 (.str _)⟩
  · rcases z with ⟨y, e, l, z⟩ | ⟨i, e, l, z⟩
    · exact .inl ⟨y, e, l, hq _ _ z⟩
    · exact .inr ⟨i, e, l, hq _ _ z⟩
/-- the texts one behind the other -/
def jsD : List WE → Str → EnvD → AH → (Str → AH → Prop) → KX → Prop
  | [], acc, _, h, Q, _ => Q acc h
  | w :: ws, acc, ρ, h, Q, X => w ρ h (fun x h1 => ∃ y : Str, x = .str y ∧ (acc ++ y).length ≤ sizeLine ∧ jsD ws (acc ++ y) ρ h1 Q X) X
def wJoin (ws : List WE) : WE := fun ρ h Q X => jsD ws Str.empty ρ h (fun out h1 => Q (.str out) h1) X
inductive AJ (X : Cx) (E : XK) : List Expr → List WE → Prop where
  | nil : AJ X E [] []
  | cons {e : Expr} {w : WE} {es : List Expr} {ws : List WE} (h : AE X E e w) (r : AJ X E es ws) : AJ X E (e :: es) (w :: ws)
theorem jsD_mo (h : AJ X E es ws) : ∀ {acc : Str} {ρ : EnvD} {g : AH} {Q Q' : Str → AH → Prop} {Y Y' : KX}, (∀ s g, Q s g → Q' s g) → (∀ x g, Y x g → Y' x g) → jsD ws acc ρ g Q Y → jsD ws acc ρ g Q' Y' := by
  induction h with
  | nil => intro acc ρ g Q Q' Y Y' hq hy q; exact hq _ _ q
  | cons he r ih =>
    intro acc ρ g Q Q' Y Y' hq hy q
    exact he.mo _ _ _ _ _ _ (fun x h1 ⟨y, e, l, z⟩ => ⟨y, e, l, ih hq hy z⟩) hy q
theorem pj_of (h : AJ X E es ws) : PJ X es (ws.map (tE X.K E)) := by
  induction h with
  | nil => exact .nil
  | cons he r ih => exact .cons he.run ih
theorem js_to (h : AJ X E es ws) : ∀ {acc : Str} {σ : L2.St} {H : Hp} {Q : Str → Hp → Prop} {F : Hp} {ρ : EnvD} {g : AH}, Sim X.K F g H → EnvR X.K F ρ σ →
    jsD ws acc ρ g (fun out g1 => ∀ F' H', Ext F F' → Sim X.K F' g1 H' → Q out H') (LX X.K F E) → tJs (ws.map (tE X.K E)) acc σ H Q := by
  induction h with
  | nil => intro acc σ H Q F ρ g S R q; exact q F H (.refl F) S
  | cons he r ih =>
    intro acc σ H Q F ρ g S R q
    refine ⟨F, ρ, g, S, R, he.mo _ _ _ _ _ _ (fun x h1 z => ?_) (fun _ _ z => z) q⟩
    obtain ⟨y, rfl, l, z⟩ := z
    intro F1 H1 v e1 S1 r1
    cases r1
    exact ⟨y, rfl, l, ih S1 (R.ext e1) (jsD_mo r (fun s g q F' H' e S => q F' H' (e1.trans e) S) (fun _ _ z => LX.ext e1 z) z)⟩
theorem ae_joined {v1 v2 : Expr} {rest : List Expr} (h : AJ X E (v1 :: v2 :: rest) ws) : AE X E (.JoinedStr (v1 :: v2 :: rest) pos) (wJoin ws) :=
  ⟨PE.imp (pe_joined (pj_of h)) fun σ H Q ⟨F, ρ, g, S, R, q⟩ => js_to h S R (jsD_mo h (fun s g1 q F' H' e S' => q F' H' _ e S' (.str s)) (fun _ _ z => z) q), fun ρ g Q Q' Y Y' hq hy q => jsD_mo h (fun _ _ z => hq _ _ z) hy q⟩
theorem u_fmtI {ρ : EnvD} {h : AH} {Q : KD} {Y : KX} : wFmt we ρ h Q Y = we ρ h (fun x h1 => (∃ y : Str, x = .str y ∧ y.length ≤ sizeLine ∧ Q (.str y) h1) ∨ ∃ i : Int, x = .int i ∧ i.natAbs.log2 < 1920 ∧ Q (.str (toString i)) h1) Y := rfl
theorem u_join {ρ : EnvD} {h : AH} {Q : KD} {Y : KX} : wJoin ws ρ h Q Y = jsD ws Str.empty ρ h (fun out h1 => Q (.str out) h1) Y := rfl
end
end DL
namespace PK
open DL
def tys (C : PySem.Addr) : ITab := [(.ty "NoneType", C, false), (.ty "bool", C, false), (.ty "int", C, false), (.ty "str", C, false), (.ty "tuple", C, false), (.ty "list", C, false), (.ty "dict", C, false)]
def ii_Ledger (z : Ad) : ITab := (.ref z.Ledger, z.Ledger, true) :: tys z.Ledger
end PK
namespace DL
open PySem PySem.Spec L2 C8
/-- str(i) of an int -/
def dStrI (ds : List D) (h : AH) (Q : KD) : Prop := ∃ i : Int, ds = [.int i] ∧ i.natAbs.log2 < 1920 ∧ Q (.str (toString i)) h
theorem dStrI_ok {X : Cx} : CaD X (.type "str") dStrI where
  ex := ⟨_, call_str_int, fun {F h H ds vs Q} S r q => by
    obtain ⟨i, rfl, l, q⟩ := q
    obtain ⟨v, rfl, r1⟩ := r.one
    cases r1
    exact ⟨i, rfl, l, q.at S (.str _)⟩⟩
  mo := fun {ds h Q Q'} hq ⟨i, e, l, q⟩ => ⟨i, e, l, hq _ _ q⟩
end DL
namespace DL
open PySem PySem.Spec L2 C8 PyProof.Rows
/-! ### operators of own classes whose defs may raise: x[y], y in x -/
section
variable {prog : Program} {w : World} {A : Around} {E : Value → Shared → Prop} {s : Shared} {K : PySem.W.Frag} {x C f : Addr} {ox : Obj} {odd : Option Obj} {v : Value}
theorem in_own {Q : Bool → Shared → Prop} (X : K.In s.heap) (I : PySem.W.InstAt s.heap x ox C odd) (hs : PySem.W.findIn K (.ref C) "__contains__" = some (some (.ref f))) (hf : PySem.W.isFn K (.ref f) = true)
    (h : wpAny (model prog w) A (call (.ref f) [.ref x, v]) (fun r s1 => ∃ b, r = Value.bool b ∧ Q b s1) E s) : wpAny (model prog w) A (contains (.ref x) v) Q E s := by
  have hsp : ∀ {Q' : Option Value → Shared → Prop}, Q' (some (.ref f)) s → wpAny (model prog w) A (specialOf (.ref x) "__contains__") Q' E s := fun q => by
    unfold specialOf
    exact wpAny_bind (I.type.here ((PySem.W.looks_findIn X hs).here q))
  unfold contains
  refine wpAny_holding ?_
  have no : stdlibNamesSay? (.ref x) v = none := by cases v <;> rfl
  rw [no]
  try dsimp only
  refine wpAny_bind (hsp ?_)
  rw [show ((some (Value.ref f) == some Value.none) = false) from rfl]
  try simp only [Bool.false_eq_true, if_false]
  have X2 := X
  have hb : ∀ {Q' : Value × List Value → Shared → Prop} {s' : Shared}, K.In s'.heap → Q' (.ref f, [.ref x]) s' → wpAny (model prog w) A (bindSpecial (.ref f) (.ref x)) Q' E s' := fun X q => (PySem.W.bind_fn X _ (beq_iff_eq.mp hf)).here q
  refine wpAny_bind ?_
  unfold callSpecialUnlessNone?
  refine wpAny_bind (hsp ?_)
  refine wpAny_holding (wpAny_bind (hb X ?_))
  show wpAny _ A (if (Value.ref f == Value.none) = true then _ else _) _ E s
  rw [if_neg (by rw [show (Value.ref f == Value.none) = false from rfl]; decide)]
  refine wpAny_bind (wpAny_mono h (fun r s' hr => ?_) fun _ _ z => z)
  obtain ⟨b, rfl, q⟩ := hr
  exact wpAny_pure (wpAny_truthy_bool q)
end
def wInX (neg : Bool) (C : Addr) (S : FSpec) (wa wb : WE) : WE := fun ρ h Q X => wa ρ h (fun x h1 => wb ρ h1 (fun y h2 => isI C y h2 ∧ S [y, x] h2 (fun d h3 => ∃ b, d = .bl b ∧ Q (.bl (if neg = true then !b else b)) h3) X) X) X
section
variable (P : Program) (w : World) (K : PySem.W.Frag) (mg : Str → Option Value) (base : Heap)
structure InC (C : Addr) (k : Nat) (S : FSpec) : Prop where
  ex : ∃ g, PySem.W.findIn K (.ref C) "__contains__" = some (some (.ref g)) ∧ PySem.W.isFn K (.ref g) = true ∧ FnRD P w K mg base k g S
  mo : MoF S
end
section
variable {X : Cx} {E : XK} {gz : Bool} {k j : Nat} {a b : Expr} {wa wb : WE} {C g : Addr} {S : FSpec} {pos : Pos}
/-- an operator of two values that may raise -/
structure OpXD (K : PySem.W.Frag) (E : XK) (r : R2) (f : D → D → AH → KD → KX → Prop) : Prop where
  to : ∀ {F h H x y vx vy Q}, Sim K F h H → Rep K F x vx → Rep K F y vy → f x y h (LQ K F Q) (LX K F E) → r vx vy H Q
  mo : ∀ {x y h Q Q' X X'}, (∀ d h, Q d h → Q' d h) → (∀ d h, X d h → X' d h) → f x y h Q X → f x y h Q' X'
theorem twoX {r : R2} {f : D → D → AH → KD → KX → Prop} (ok : OpXD X.K E r f) (ha : AE X E a wa) (hb : AE X E b wb) {σ : L2.St} {H : Hp} {Q : VK}
    (h : tE X.K E (fun ρ h Q X => wa ρ h (fun x h1 => wb ρ h1 (fun y h2 => f x y h2 Q X) X) X) σ H Q) : tOp r (tE X.K E wa) (tE X.K E wb) σ H Q := by
  obtain ⟨F, ρ, g, S, R, q⟩ := h
  refine ⟨F, ρ, g, S, R, ha.mo _ _ _ _ _ _ (fun x h1 hx => ?_) (fun _ _ z => z) q⟩
  intro F1 H1 vx e1 S1 rx
  refine ⟨F1, ρ, h1, S1, R.ext e1, hb.mo _ _ _ _ _ _ (fun y h2 hf => ?_) (fun _ _ z => LX.ext e1 z) hx⟩
  intro F2 H2 vy e2 S2 ry
  exact ok.to S2 (rx.ext e2) ry (ok.mo (fun _ _ z => LQ.ext (e1.trans e2) z) (fun _ _ z => LX.ext (e1.trans e2) z) hf)
theorem mo_opX {f : D → D → AH → KD → KX → Prop} (mo : ∀ {x y h} {Q Q' : KD} {X X' : KX}, (∀ d h, Q d h → Q' d h) → (∀ d h, X d h → X' d h) → f x y h Q X → f x y h Q' X') (ma : MoE wa) (mb : MoE wb) :
    MoE (fun ρ h Q X => wa ρ h (fun x h1 => wb ρ h1 (fun y h2 => f x y h2 Q X) X) X) := fun ρ h Q Q' X X' hq hx q =>
  ma _ _ _ _ _ _ (fun x h1 q1 => mb _ _ _ _ _ _ (fun y h2 q2 => mo hq hx q2) hx q1) hx q
def rInX (neg : Bool) (C : Addr) (sp : List V → Hp → VK → Prop) : R2 := fun x y H Q => ∃ a dx fs, y = .ref a ∧ H a = some (.ins C dx fs) ∧ sp [y, x] H (fun v H2 => ∃ b, v = .bl b ∧ Q (.bl (if neg = true then !b else b)) H2)
theorem op_inX (neg : Bool) (op : CmpOp) (ho : ∀ v u, compareOp op v u = (contains u v >>= fun b => pure (Value.bool (if neg = true then !b else b)))) (c : Cg gz X E k) (hs : PySem.W.findIn X.K (.ref C) "__contains__" = some (some (.ref g))) (hf : PySem.W.isFn X.K (.ref g) = true) (G : FnRD X.prog X.w X.K X.mg X.base j g S) (hj : j ≤ k) :
    OpR X (compareOp op) (rInX neg C fun vs H Q => spD X.K S vs H Q E) := by
  intro pins s σ H x y v u Q I rx ry h
  obtain ⟨p, dx, fs, rfl, hp, z⟩ := h
  cases (show u = Value.ref p from ry)
  obtain ⟨ox, od, J⟩ := ins_at I hp
  rw [ho]
  refine wpAny_bind (in_own I.kIn J hs hf (wpAny_mono (wpAny_call (run_fnR (us := [.ref p, v]) (vs := [.ref p, x]) (G.mono hj) c.room c.ps I (.cons rfl (.cons rx .nil)) z)) (fun w s' z => ?_) fun _ _ x => x))
  obtain ⟨z', H', I', rz, b, rfl, qz⟩ := z
  refine ⟨b, rz, wpAny_pure ⟨.bl (if neg = true then !b else b), H', I', rfl, qz⟩⟩
theorem ag_inXn (neg : Bool) {op : CmpOp} (ho : ∀ v u, compareOp op v u = (contains u v >>= fun b => pure (Value.bool (if neg = true then !b else b)))) (c : Cg gz X E k) (R : InC X.prog X.w X.K X.mg X.base C j S) (hj : j ≤ k) (ha : AE X E a wa) (hb : AE X E b wb) (hm : behindInMarks op b = false) :
    AE X E (.Compare a [op] [b] pos) (wInX neg C S wa wb) := by
  obtain ⟨g, h1, h2, h3⟩ := R.ex
  have ok : OpXD X.K E (rInX neg C fun vs H Q => spD X.K S vs H Q E) (fun x y h Q X => isI C y h ∧ S [y, x] h (fun d h3 => ∃ b, d = .bl b ∧ Q (.bl (if neg = true then !b else b)) h3) X) := {
    to := by
      rintro F h H x y vx vy Q S0 rx ry ⟨⟨fs, ex⟩, q⟩
      obtain ⟨p, dx, us, rfl, hp, _⟩ := S0.insOf ry ex
      refine ⟨p, dx, us, rfl, hp, F, _, h, S0, .cons ry (.cons rx .nil), R.mo _ _ _ _ _ _ (fun d h3 z => ?_) (fun _ _ z => z) q⟩
      obtain ⟨b, rfl, z⟩ := z
      intro F2 H2 v e2 S2 rv
      cases rv
      exact ⟨b, rfl, z F2 H2 _ e2 S2 (.bl _)⟩
    mo := fun hq hx ⟨a, q⟩ => ⟨a, R.mo _ _ _ _ _ _ (fun d h3 ⟨b, e, z⟩ => ⟨b, e, hq _ _ z⟩) hx q⟩ }
  exact ⟨PE.imp (pe_cmpR (op_inX neg op ho c h1 h2 h3 hj) ha.run hb.run hm) fun σ H Q h => twoX ok ha hb h, mo_opX ok.mo ha.mo hb.mo⟩
theorem ag_inX (c : Cg gz X E k) (R : InC X.prog X.w X.K X.mg X.base C j S) (hj : j ≤ k) (ha : AE X E a wa) (hb : AE X E b wb) (hm : behindInMarks .In b = false := by first | exact nobehind _ (by decide) (by decide) | rfl) :
    AE X E (.Compare a [.In] [b] pos) (wInX false C S wa wb) := ag_inXn false (fun _ _ => by first | rfl | (unfold compareOp; rfl)) c R hj ha hb hm
end
end DL
namespace DL
open PySem PySem.Spec L2 C8
/-! ### data in a list of data -/
end DL
namespace DL
open PySem PySem.Spec L2 C8 PyProof.Rows PySem.SeqAt PySem.MeetsSeq
open PySem.AutoSeq1 (wpAny_loadPart')
end DL
namespace DL
open PySem PySem.Spec L2 C8 PyProof.Rows PySem.SeqAt PySem.MeetsSeq
/-! ### x != y, y may be a list where x is a tuple -/
end DL
/-! l.pop(), and l != [] by length alone -/
namespace DL
open PySem PySem.Spec L2 C8
section
variable {X : Cx} {E : XK} {gz : Bool} {k : Nat} {a b o : Expr} {wa wb wo : WE} {pos : Pos}
/-! -/
def rNeE (K : PySem.W.Frag) : R2 := fun x y H Q => ∃ a b xs, x = .ref a ∧ y = .ref b ∧ SqL K H a xs ∧ SqL K H b [] ∧ Q (.bl (!xs.isEmpty)) H
theorem op_neE (hu : X.A.units + 64 < cLine) : OpR X (compareOp .NotEq) (rNeE X.K) := by
  intro pins s σ H x y v u Q I rx ry h
  obtain ⟨a, b, xs, rfl, rfl, h1, h2, q⟩ := h
  cases rx; cases ry
  have fin : EP X pins σ Q (.bool (!xs.isEmpty)) s := ⟨.bl _, H, I, rfl, q⟩
  obtain ⟨its, rv, p, _⟩ := I.list h1
  obtain ⟨its2, rv2, p2, _⟩ := I.list h2
  have z1 := vals_size rv
  have z2 := vals_size rv2
  cases xs with
  | nil =>
    refine PySem.SeqAt.RcNeAt.lists (e := fun _ => true) p.isList p2.isList (by rw [z1, z2]) (by omega) (fun j g1 g2 => by rw [z1] at g1; cases g1) _ _ _ _ ?_
    rw [z1]; exact fin
  | cons x xs => exact PySem.SeqAt.RcNeAt.lists_lengths p.isList p2.isList (by rw [z1, z2]; rfl) (by omega) _ _ _ _ fin
def dNeE (x y : D) (h : AH) (Q : KD) : Prop := y = .lst [] ∧ ∃ xs, lstOf h x = some xs ∧ Q (.bl (!xs.isEmpty)) h
theorem dNeE_ok {K : PySem.W.Frag} : OpD K (rNeE K) dNeE where
  to := by
    rintro F h H x y vx vy Q S rx ry ⟨rfl, xs, e, q⟩
    obtain ⟨a, vs, rfl, ha, rs⟩ := S.lstOf rx e
    cases ry with
    | @lst b _ ws hb rb =>
      cases rb
      exact ⟨a, b, vs, rfl, rfl, .of ha, .of (S.fz _ _ hb), by rw [reps_emp rs]; exact q.at S (.bl _)⟩
  mo := fun hq ⟨e, xs, e2, q⟩ => ⟨e, xs, e2, hq _ _ q⟩
theorem at_neE (c : Cg gz X E k) (ha : AE X E a wa) (hb : AE X E b wb) : AT X E (.Compare a [.NotEq] [b] pos) (wTest (wOp dNeE wa wb)) := at_cmp dNeE_ok (op_neE c.room.units) ha hb
end
end DL
namespace DL
open PySem PySem.Spec L2 C8
/-! ### x != (), by length alone -/
section
variable {X : Cx} {E : XK} {gz : Bool} {k : Nat} {a b : Expr} {wa wb : WE} {pos : Pos}
def rNeET (K : PySem.W.Frag) : R2 := fun x y H Q => ∃ a b xs, x = .ref a ∧ y = .ref b ∧ SqT K H a xs ∧ SqT K H b [] ∧ Q (.bl (!xs.isEmpty)) H
theorem op_neET (hu : X.A.units + 64 < cLine) : OpR X (compareOp .NotEq) (rNeET X.K) := by
  intro pins s σ H x y v u Q I rx ry h
  obtain ⟨a, b, xs, rfl, rfl, h1, h2, q⟩ := h
  cases rx; cases ry
  have fin : EP X pins σ Q (.bool (!xs.isEmpty)) s := ⟨.bl _, H, I, rfl, q⟩
  obtain ⟨its, rv, p, _⟩ := I.tuple h1
  obtain ⟨its2, rv2, p2, _⟩ := I.tuple h2
  have z1 := vals_size rv
  have z2 := vals_size rv2
  refine PySem.SeqAt.RcNeAt.tuples (e := fun _ => true) p p2 (by omega) (fun j g1 g2 => by rw [z2] at g2; cases g2) _ _ _ _ ?_
  rw [z1, z2]
  cases xs with
  | nil => exact fin
  | cons x xs => exact fin
def dNeET (x y : D) (h : AH) (Q : KD) : Prop := y = .tup [] ∧ ∃ xs, (x = .tup xs ∨ x = .tpl xs) ∧ Q (.bl (!xs.isEmpty)) h
theorem dNeET_ok {K : PySem.W.Frag} : OpD K (rNeET K) dNeET where
  to := by
    rintro F h H x y vx vy Q S rx ry ⟨rfl, xs, e, q⟩
    cases ry with
    | @tup b _ ws hb rb =>
      cases rb
      rcases e with rfl | rfl
      · cases rx with
        | @tup a _ vs ha rs => exact ⟨a, b, vs, rfl, rfl, sqt_of S.fz ha, sqt_of S.fz hb, by rw [reps_emp rs]; exact q.at S (.bl _)⟩
      · cases rx with
        | @tpl a _ _ vs ha hd rs => exact ⟨a, b, vs, rfl, rfl, sqt_of S.fz (.inl (.inr ⟨_, ha⟩)), sqt_of S.fz hb, by rw [reps_emp rs]; exact q.at S (.bl _)⟩
  mo := fun hq ⟨e, xs, e2, q⟩ => ⟨e, xs, e2, hq _ _ q⟩
theorem ae_neET (c : Cg gz X E k) (ha : AE X E a wa) (hb : AE X E b wb) : AE X E (.Compare a [.NotEq] [b] pos) (wOp dNeET wa wb) := ae_cmp dNeET_ok (op_neET c.room.units) ha hb
theorem at_neET (c : Cg gz X E k) (ha : AE X E a wa) (hb : AE X E b wb) : AT X E (.Compare a [.NotEq] [b] pos) (wTest (wOp dNeET wa wb)) := at_cmp dNeET_ok (op_neET c.room.units) ha hb
end
end DL
namespace DL
open PySem PySem.Spec L2 C8
section
variable {X : Cx} {E : XK} {gz : Bool} {k : Nat} {i o : Expr} {wi wo : WE} {pos : Pos}
theorem mo_din {f : Bool → Bool} (hi : AE X E i wi) (ho : AE X E o wo) : MoE (wOp (dDin f) wi wo) := fun ρ h Q Q' X X' hq hx q => hi.mo _ _ _ _ _ _ (fun y h1 z => ho.mo _ _ _ _ _ _ (fun x h2 ⟨kvs, k, e1, e2, z⟩ => ⟨kvs, k, e1, e2, hq _ _ z⟩) hx z) hx q
theorem isS_val {K : PySem.W.Frag} {F : Hp} {kvs : List (Key × D)} {vs : List (Key × V)} (rs : RepK K F kvs vs) (kk : Key) : (valD kvs kk).isSome = (valV vs kk).isSome := by
  rcases rs.val kk with ⟨n1, n2⟩ | ⟨d', v, n1, n2, rv⟩ <;> rw [n1, n2] <;> rfl
/-- k in d, a value -/
theorem ae_din (c : Cg gz X E k) (hi : AE X E i wi) (ho : AE X E o wo) (hm : behindInMarks .In o = false := by rfl) : AE X E (.Compare i [.In] [o] pos) (wOp (dDin fun b => b) wi wo) := by
  refine ⟨PE.imp (pe_cmp (pos := pos) (pc_din (hu_of c.room) hi.run ho.run) hm) fun σ H Q ⟨F, ρ, h, S, R, q⟩ => ?_, mo_din hi ho⟩
  refine ⟨F, ρ, h, S, R, hi.mo _ _ _ _ _ _ (fun y h1 z => ?_) (fun _ _ z => z) q⟩
  intro F1 H1 vy e1 S1 ry
  refine ⟨F1, ρ, h1, S1, R.ext e1, ho.mo _ _ _ _ _ _ (fun x h2 z => ?_) (fun _ _ z => LX.ext e1 z) z⟩
  intro F2 H2 vx e2 S2 rx
  obtain ⟨kvs, kk, ek, ey, z⟩ := z
  obtain ⟨a, vs, rfl, ha, rs⟩ := S2.dkOf rx ek
  exact ⟨a, _, rfl, .inl ⟨vs, kk, .of ha, keyD_to (ry.ext e2) ey, rfl⟩, by rw [← isS_val rs]; exact z F2 H2 _ (e1.trans e2) S2 (.bl _)⟩
end
end DL
/-! a comprehension over a typed list -/
namespace DL
open PySem PySem.Spec L2 C8
theorem comp_map {α : Type} {st : AH → Prop} {g : WG} {tt : WT} {te : WE} {vs : List Nat} {ρ : EnvD} {p : Addr} {h : AH} {Q : AH → Prop} (e f : α → D) (xs : List α) (hst : ∀ acc, st (up h p (.lst acc))) (hl : xs.length ≤ sizeLine)
    (hs : ∀ x acc (K : AH → Prop), x ∈ xs → acc.length < sizeLine → K (up h p (.lst (acc ++ [f x]))) → g (e x) (wipeD ρ vs) (up h p (.lst acc)) (fun ρ2 h2 => tt ρ2 h2 (fun b h3 => if b = true then te ρ2 h3 (fun y h4 => ∃ acc, h4 p = some (.lst acc) ∧ acc.length < sizeLine ∧ K (up h4 p (.lst (acc ++ [y])))) (fun _ _ => False) else K h3) (fun _ _ => False)) (fun _ _ => False))
    (hd : Q (up h p (.lst (xs.map f)))) : compD st g tt te vs ρ p (xs.map e) (up h p (.lst [])) Q := by
  refine comp_go (fun i h' => h' = up h p (.lst ((xs.take i).map f))) (by rw [List.take_zero]; rfl) (fun i h' e => e ▸ hst _) ?_ ?_
  · rintro i x h' K hi rfl k
    rw [List.getElem?_map] at hi
    obtain ⟨a, ha, rfl⟩ := Option.map_eq_some_iff.mp hi
    have li := (List.getElem?_eq_some_iff.mp ha).1
    refine hs a _ K (List.mem_of_getElem? ha) (by rw [List.length_map, List.length_take]; omega) (k _ ?_)
    rw [List.take_succ, ha, Option.toList_some, List.map_append]; rfl
  · rintro h' rfl
    rw [List.length_map, List.take_length]; exact hd
end DL
namespace K25
open PySem PySem.Spec L2 C8 DL PK PL PQ PN PB F4 PR
abbrev N_is_row : List Str := ["value"]
abbrev N_Ledger___init__ : List Str := ["self", "rows", "found", "index", "row", "offset"]
abbrev N_Ledger_rows : List Str := ["self"]
abbrev N_Ledger_greatest : List Str := ["self"]
abbrev N_Ledger___getitem__ : List Str := ["self", "offset"]
abbrev N_Ledger___contains__ : List Str := ["self", "value"]
abbrev N_Ledger___len__ : List Str := ["self"]
abbrev N_Ledger___add__ : List Str := ["self", "other", "some"]
abbrev N_Ledger___eq__ : List Str := ["self", "other"]
abbrev N_Ledger___repr__ : List Str := ["self"]
abbrev N__law_pen : List Str := ["_law_script"]
abbrev N__law_draw : List Str := ["_law_pen_here", "_law_many", "_law_digit", "_law_at", "_law_cell", "_law_great", "_law_mixed"]
abbrev N__law_word : List Str := ["_law_it", "_law_some", "_law_at", "_law_bases", "_law_words"]
abbrev N__law_field : List Str := ["_law_word_here", "_law_it"]
abbrev N__law_more_field : List Str := ["_law_word_here", "_law_it"]
abbrev N__law_heard : List Str := ["_law_ask", "_law_it", "error", "_law_word_here"]
abbrev N__law_offset : List Str := ["_law_pen_here"]
abbrev N__law_amount : List Str := ["_law_pen_here", "_law_some"]
abbrev N__law_rows : List Str := ["_law_pen_here", "_law_most", "_law_found", "_law_k", "_law_row"]
abbrev N__law_sums : List Str := ["_law_rows_here", "_law_found", "_law_offset_here", "_law_amount_here"]
abbrev N__law_ledger : List Str := ["_law_rows_here"]
abbrev N__law_odd : List Str := ["_law_pen_here", "_law_some"]
abbrev N__law_refused_right : List Str := ["_law_pen_here", "_law_rows_here", "_law_at", "_law_bent"]
abbrev N__law_told_right : List Str := ["_law_made", "_law_due", "_law_told", "_law_greatest", "_law_known", "_law_offset_here", "_law_some", "_law_one"]
abbrev N__law_alike_right : List Str := ["_law_made", "_law_rows_here", "_law_due", "_law_other", "_law_more", "_law_one"]
abbrev N__law_long_right : List Str := ["_law_pen_here", "_law_some", "_law_made", "_law_at", "_law_heard_here", "_law_k"]
abbrev N_law : List Str := ["_law_script", "_law_pen_here", "_law_turn", "_law_rows_here", "_law_kept", "_law_made", "_law_nine"]
def errs (z : Ad) : List Addr := [z.InvalidRow]
def xtab (z : Ad) : XTab := [(z.InvalidRow, .ref z.AbsentError, false), (z.InvalidRow, .ref z.Contradiction, false), (z.InvalidRow, .ref z.DifferentModes, false), (z.InvalidRow, .ref z.EchoError, true), (z.InvalidRow, .ref z.Finished, false), (z.InvalidRow, .ref z.Full, false), (z.InvalidRow, .ref z.InvalidAccount, false), (z.InvalidRow, .ref z.InvalidBound, false), (z.InvalidRow, .ref z.InvalidCapacity, false), (z.InvalidRow, .ref z.InvalidMode, false), (z.InvalidRow, .ref z.InvalidNumber, false), (z.InvalidRow, .ref z.InvalidProgram, false), (z.InvalidRow, .ref z.InvalidReading, false), (z.InvalidRow, .ref z.InvalidRow, true), (z.InvalidRow, .ref z.InvalidTable, false), (z.InvalidRow, .ref z.InvalidText, false), (z.InvalidRow, .ty "LookupError", false), (z.InvalidRow, .ref z.Lossy, false), (z.InvalidRow, .ref z.NoName, false), (z.InvalidRow, .ref z.NoPlace, false), (z.InvalidRow, .ref z.NoPoint, false), (z.InvalidRow, .ref z.NoReading, false), (z.InvalidRow, .ref z.NothingToUndo, false), (z.InvalidRow, .ty "OverflowError", false), (z.InvalidRow, .ref z.SizeError, false), (z.InvalidRow, .ref z.TooLarge, false), (z.InvalidRow, .ref z.TooLong, false), (z.InvalidRow, .ref z.TooManyProcesses, false), (z.InvalidRow, .ref z.UnknownCommand, false), (z.InvalidRow, .ty "ValueError", true)]
/-! odd rows -/
def oddR : List D := [.non, .int 5, .tup [], .tup [.int 1], .tup [.int 1, .int 2, .int 3], .lst [.int 1, .int 2], .tup [.bl true, .int 2], .tup [.int 1, .bl false], .tup [.int (-1), .int 2], .tup [.int 1000001, .int 2], .tup [.str "1", .int 2], .tup [.int 1, .str "2"], .tup [.int 1, .non], .tup [.tup [.int 1, .int 2]], .dK [], .tup [.lst [.int 1], .int 2], .str "12"]
def badRow (z : Ad) (i : Nat) : DX := .own z.InvalidRow [("index", .int (i : Nat))]
def Tb (z : Ad) (h : AH) : Prop := h z.t0 = some (.tab (("_law_refused_right" : Str) ++ ".<locals>." ++ "<lambda>")) ∧ h z.t1 = some (.tab (("_law_long_right" : Str) ++ ".<locals>." ++ "<lambda>"))
/-- what a ledger of rows and an odd tail answers -/
def Mkd (z : Ad) (rows : Prs) (tail : List D) (h : AH) (q : Prop) (X : KX) : Prop := (tail = [] ∧ q) ∨ ∃ x t, tail = x :: t ∧ x ∈ oddR ∧ ∀ h', Sub h h' → X (badRow z rows.length) h'
theorem Mkd.mo {z : Ad} {rows : Prs} {tail : List D} {h : AH} {q q' : Prop} {X X' : KX} (m : Mkd z rows tail h q X) (hq : q → q') (hx : ∀ e h, X e h → X' e h) : Mkd z rows tail h q' X' :=
  m.imp (fun ⟨e, k⟩ => ⟨e, hq k⟩) fun ⟨x, t, e, o, k⟩ => ⟨x, t, e, o, fun h' s => hx _ _ (k h' s)⟩
def S_is_row (z : Ad) : FSpec := fun ds h Q _ => ∃ x b, ds = [x] ∧ ((b = true ∧ ∃ e, x = pairD e ∧ 0 ≤ e.1 ∧ e.1 ≤ 1000000) ∨ (b = false ∧ x ∈ oddR)) ∧ Q (.bl b) h
def S_Ledger___init__ (z : Ad) : FSpec := fun ds h Q X => ∃ (a : Addr) (rows : Prs) (tail : List D), ds = [.ref a, .tup (rows.map pairD ++ tail)] ∧ h a = some (.ins z.Ledger []) ∧ InR rows ∧ rows.length + tail.length ≤ 10000 ∧
  Mkd z rows tail h (∀ es, Led es (amt rows) → es.length ≤ rows.length → Q .non (up h a (.ins z.Ledger [("amounts", .dK (toK es))]))) X
def S_Ledger___getitem__ (z : Ad) : FSpec := S_getit z.Ledger
def S_Ledger___contains__ (z : Ad) : FSpec := fun ds h Q _ => ∃ (es : Prs) (x : D) (t : String), ds = [ledD z.Ledger es, x] ∧ tyD h x = some t ∧ Q (.bl (match x with | .int k => hasI es k | _ => false)) h
abbrev S_Ledger___add__ (z : Ad) : FSpec := PL.S_Ledger___add__ z
def S_Ledger___eq__ (z : Ad) : FSpec := fun ds h Q _ => ∃ es y, ds = [ledD z.Ledger es, y] ∧ Std es ∧ ((∃ fs, y = ledD z.Ledger fs ∧ Std fs ∧ Q (.bl (decide (es = fs))) h) ∨ ∃ n, tyD h y = some n ∧ Q (.bl false) h)
def lText (n : Nat) : Str := (("Ledger(" : Str) ++ toString ((n : Nat) : Int)) ++ (" rows)" : Str)
def S_Ledger___repr__ (z : Ad) : FSpec := fun ds h Q _ => ∃ es : Prs, ds = [ledD z.Ledger es] ∧ es.length ≤ 1000 ∧ Q (.str (lText es.length)) h
inductive Wrd (z : Ad) : Addr → List (Str × D) → Str → D → Prop where
  | row (v : D) : Wrd z z.InvalidRow [("index", v)] "row" v
def S__law_word (z : Ad) : FSpec := fun ds h Q _ => ∃ C fs w v, ds = [.xob C fs] ∧ Wrd z C fs w v ∧ Q (.str w) h
def S__law_field (z : Ad) : FSpec := fun ds h Q _ => ∃ C fs w v, ds = [.str w, .xob C fs] ∧ Wrd z C fs w v ∧ Q (.lst [v]) h
def S__law_more_field (z : Ad) : FSpec := fun ds _ _ _ => ds.length = 2 ∧ False
def S__law_heard (z : Ad) : HSpec := fun tl h Q _ => tl h (fun d h' => Q (.lst [d]) h') (fun x h' => ∃ C fs w v, x = .own C fs ∧ Wrd z C fs w v ∧ Q (.tup [.str w, v]) h')
def S__law_sums (z : Ad) : FSpec := fun ds h Q _ => ∃ rows : Prs, ds = [.lst (rows.map pairD)] ∧ rows.length ≤ 1000 ∧ ∀ es, Led es (amt rows) → es.length ≤ rows.length → Q (.tpl (es.map pairD)) h
def S__law_ledger (z : Ad) : FSpec := fun ds h Q X => ∃ (rows : Prs) (tail : List D), ds = [.lst (rows.map pairD ++ tail)] ∧ InR rows ∧ rows.length + tail.length ≤ 6 ∧
  Mkd z rows tail h (∀ gs, Led gs (amt rows) → InR gs → gs.length ≤ rows.length → Q (ledD z.Ledger gs) h) X
def S__law_odd (z : Ad) : FSpec := fun ds h Q _ => ∃ (n : Int) (p : Addr), ds = [.ref p] ∧ PenAt n h p ∧ n < 900000 ∧ ∀ x o, x ∈ oddR → PenO (n + 1) o → Q x (up h p o)
def S__law_refused_right (z : Ad) : FSpec := fun ds h Q _ => ∃ (n : Int) (p : Addr) (rows : Prs), ds = [.ref p, .lst (rows.map pairD)] ∧ Tb z h ∧ PenAt n h p ∧ n < 800000 ∧ K26.Rws rows ∧ ∀ o, PenO (n + 10) o → Q (.bl true) (up h p o)
def S__law_told_right (z : Ad) : FSpec := fun ds h Q _ => ∃ gs : Prs, ds = [ledD z.Ledger gs, .tpl (gs.map pairD)] ∧ Std gs ∧ InR gs ∧ gs.length ≤ 6 ∧ (∀ e ∈ gs, e.2.natAbs < 2 ^ 110) ∧ Q (.bl true) h
def S__law_alike_right (z : Ad) : FSpec := fun ds h Q _ => ∃ rows gs : Prs, ds = [ledD z.Ledger gs, .lst (rows.map pairD)] ∧ K26.Rws rows ∧ Led gs (amt rows) ∧ gs.length ≤ 6 ∧ InR gs ∧ Q (.bl true) h
def S__law_long_right (z : Ad) : FSpec := fun ds h Q _ => ∃ (n : Int) (p : Addr), ds = [.ref p] ∧ Tb z h ∧ PenAt n h p ∧ n < 800000 ∧ ∀ o, PenO (n + 10) o → Q (.bl true) (up h p o)
def S_law (z : Ad) : FSpec := fun ds h Q _ => ∃ js : List Int, ds = [.lk (js.map D.int)] ∧ Tb z h ∧ ∀ h', Q (.bl true) h'
/-! ### the readings -/
def w_is_row (z : Ad) : WS := (wSeq (wIfS (wOr (wNot (wTest (wB dIsi (wCons (wVar 0) (wCons (wC (.ty "tuple")) wNil))))) (wTest (wOp (dEq fun b => !b) (wB dLen (wCons (wVar 0) wNil)) (wC (.int 2))))) (wRet (wC (.bl false))) wSkip)
  (wRet (wAndV (wCallP (PK.S_is_between z) 3 (fun ds _ => ds) (wCons (wOp dIx (wVar 0) (wC (.int 0))) (wCons (wC (.int 0)) (wCons (wC (.int 1000000)) wNil)))) (wCallP (PK.S_is_integer z) 1 (fun ds _ => ds) (wCons (wOp dIx (wVar 0) (wC (.int 1))) wNil)))))
def w_Ledger___init__ (z : Ad) : WS := (wSeq (wAsg wDnew (gN 2))
  (wSeq (wFor (iNum (wCons (wVar 1) wNil)) (gT 2 (gsCons (gN 3) (gsCons (gN 4) gsNil))) (wSeq (wIfS (wNot (wTest (wCallP (S_is_row z) 1 (fun ds _ => ds) (wCons (wVar 4) wNil)))) (wRaise z.InvalidRow ["index"] (wCons (wVar 3) wNil)) wSkip)
  (wDput (wVar 2) (wOp dIx (wVar 4) (wC (.int 0))) (wOp (dAdd false) (wGet2 (wVar 2) (wOp dIx (wVar 4) (wC (.int 0))) (wC (.int 0))) (wOp dIx (wVar 4) (wC (.int 1)))))))
  (wSetF z.Ledger "amounts" (wVar 0) (wDc false (iSeq (wB (dSortD false) (wCons (wVar 2) wNil))) (gN 5) (wTest (wOp (dEq fun b => !b) (wDGet (wVar 2) (wVar 5)) (wC (.int 0)))) (wVar 5) (wDGet (wVar 2) (wVar 5)) [5]))))
def w_Ledger___getitem__ (z : Ad) : WS := (wRet (wGet2 (wFld z.Ledger "amounts" (wVar 0)) (wVar 1) (wC (.int 0))))
def w_Ledger___contains__ (z : Ad) : WS := (wRet (wAndV (wCallP (PK.S_is_integer z) 1 (fun ds _ => ds) (wCons (wVar 1) wNil)) (wOp (dDin fun b => b) (wVar 1) (wFld z.Ledger "amounts" (wVar 0)))))
def w_Ledger___add__ (z : Ad) : WS := (wSeq (wAsg (wOp (dAdd false) (wProp z.Ledger (PL.S_Ledger_rows z) (wVar 0)) (wProp z.Ledger (PL.S_Ledger_rows z) (wVar 1))) (gN 2))
  (wRet (wMakeS z.Ledger (starS 1 (S_Ledger___init__ z)) (wVar 2))))
def w_Ledger___eq__ (z : Ad) : WS := (wRet (wAndV (wB (dIsiS (PK.ii_Ledger z)) (wCons (wVar 1) (wCons (wC (.ref z.Ledger)) wNil))) (wOp (dEqK fun b => b) (wFld z.Ledger "amounts" (wVar 0)) (wFld z.Ledger "amounts" (wVar 1)))))
def w_Ledger___repr__ (z : Ad) : WS := (wRet (wJoin [(wC (.str "Ledger(")), (wFmt (wB (dLenO z.Ledger (PL.S_Ledger___len__ z)) (wCons (wVar 0) wNil))), (wC (.str " rows)"))]))
def w__law_word (z : Ad) : WS := (wSeq (wAsg (wLst false (wCons (wB (dIsX (xtab z)) (wCons (wVar 0) (wCons (wC (.ref z.InvalidMode)) wNil))) (wCons (wB (dIsX (xtab z)) (wCons (wVar 0) (wCons (wC (.ref z.InvalidNumber)) wNil))) (wCons (wB (dIsX (xtab z)) (wCons (wVar 0) (wCons (wC (.ref z.InvalidCapacity)) wNil))) wNil)))) (gN 1))
  (wSeq (wAsg (wOp (dAdd false) (wVar 1) (wLst false (wCons (wB (dIsX (xtab z)) (wCons (wVar 0) (wCons (wC (.ref z.InvalidReading)) wNil))) (wCons (wB (dIsX (xtab z)) (wCons (wVar 0) (wCons (wC (.ref z.InvalidBound)) wNil))) (wCons (wB (dIsX (xtab z)) (wCons (wVar 0) (wCons (wC (.ref z.InvalidProgram)) wNil))) wNil))))) (gN 1))
  (wSeq (wAsg (wOp (dAdd false) (wVar 1) (wLst false (wCons (wB (dIsX (xtab z)) (wCons (wVar 0) (wCons (wC (.ref z.InvalidRow)) wNil))) (wCons (wB (dIsX (xtab z)) (wCons (wVar 0) (wCons (wC (.ref z.InvalidTable)) wNil))) (wCons (wB (dIsX (xtab z)) (wCons (wVar 0) (wCons (wC (.ref z.InvalidAccount)) wNil))) wNil))))) (gN 1))
  (wSeq (wAsg (wOp (dAdd false) (wVar 1) (wLst false (wCons (wB (dIsX (xtab z)) (wCons (wVar 0) (wCons (wC (.ref z.InvalidText)) wNil))) (wCons (wB (dIsX (xtab z)) (wCons (wVar 0) (wCons (wC (.ref z.Lossy)) wNil))) (wCons (wB (dIsX (xtab z)) (wCons (wVar 0) (wCons (wC (.ref z.DifferentModes)) wNil))) wNil))))) (gN 1))
  (wSeq (wAsg (wOp (dAdd false) (wVar 1) (wLst false (wCons (wB (dIsX (xtab z)) (wCons (wVar 0) (wCons (wC (.ref z.Contradiction)) wNil))) (wCons (wB (dIsX (xtab z)) (wCons (wVar 0) (wCons (wC (.ref z.UnknownCommand)) wNil))) (wCons (wB (dIsX (xtab z)) (wCons (wVar 0) (wCons (wC (.ref z.TooLarge)) wNil))) wNil))))) (gN 1))
  (wSeq (wAsg (wOp (dAdd false) (wVar 1) (wLst false (wCons (wB (dIsX (xtab z)) (wCons (wVar 0) (wCons (wC (.ref z.TooLong)) wNil))) (wCons (wB (dIsX (xtab z)) (wCons (wVar 0) (wCons (wC (.ref z.TooManyProcesses)) wNil))) (wCons (wB (dIsX (xtab z)) (wCons (wVar 0) (wCons (wC (.ref z.Full)) wNil))) wNil))))) (gN 1))
  (wSeq (wAsg (wOp (dAdd false) (wVar 1) (wLst false (wCons (wB (dIsX (xtab z)) (wCons (wVar 0) (wCons (wC (.ref z.NoPlace)) wNil))) (wCons (wB (dIsX (xtab z)) (wCons (wVar 0) (wCons (wC (.ref z.NoPoint)) wNil))) (wCons (wB (dIsX (xtab z)) (wCons (wVar 0) (wCons (wC (.ref z.NoReading)) wNil))) wNil))))) (gN 1))
  (wSeq (wAsg (wOp (dAdd false) (wVar 1) (wLst false (wCons (wB (dIsX (xtab z)) (wCons (wVar 0) (wCons (wC (.ref z.NoName)) wNil))) (wCons (wB (dIsX (xtab z)) (wCons (wVar 0) (wCons (wC (.ref z.NothingToUndo)) wNil))) (wCons (wB (dIsX (xtab z)) (wCons (wVar 0) (wCons (wC (.ref z.Finished)) wNil))) wNil))))) (gN 1))
  (wSeq (wIfS (wTest (wOp (dEq fun b => !b) (wMethT isL dCountB (wVar 1) (wCons (wC (.bl true)) wNil)) (wC (.int 1)))) (wRet (wC (.str "odd"))) wSkip)
  (wSeq (wAsg (wMethT isL dIndexB (wVar 1) (wCons (wC (.bl true)) wNil)) (gN 2))
  (wSeq (wAsg (wLst true (wCons (wB (dIsX (xtab z)) (wCons (wVar 0) (wCons (wC (.ref z.EchoError)) wNil))) (wCons (wB (dIsX (xtab z)) (wCons (wVar 0) (wCons (wC (.ref z.SizeError)) wNil))) (wCons (wB (dIsX (xtab z)) (wCons (wVar 0) (wCons (wC (.ref z.AbsentError)) wNil))) wNil)))) (gN 3))
  (wSeq (wExpr (wMethT isL dAppend (wVar 3) (wCons (wOp dIx (wLst false (wCons (wB (dIsX (xtab z)) (wCons (wVar 0) (wCons (wC (.ty "ValueError")) wNil))) (wCons (wB (dIsX (xtab z)) (wCons (wVar 0) (wCons (wC (.ty "OverflowError")) wNil))) (wCons (wB (dIsX (xtab z)) (wCons (wVar 0) (wCons (wC (.ty "LookupError")) wNil))) wNil)))) (wOp (dAdd false) (wB dInt (wCons (wOp (dCmpI fun i j => decide (j < i)) (wVar 2) (wC (.int 13))) wNil)) (wB dInt (wCons (wOp (dCmpI fun i j => decide (j < i)) (wVar 2) (wC (.int 17))) wNil)))) wNil)))
  (wSeq (wAsg (wLst false (wCons (wC (.str "mode")) (wCons (wC (.str "number")) (wCons (wC (.str "capacity")) (wCons (wC (.str "reading")) (wCons (wC (.str "bound")) (wCons (wC (.str "program")) (wCons (wC (.str "row")) (wCons (wC (.str "table")) (wCons (wC (.str "account")) (wCons (wC (.str "text")) (wCons (wC (.str "lossy")) wNil)))))))))))) (gN 4))
  (wSeq (wAsg (wOp (dAdd false) (wVar 4) (wLst false (wCons (wC (.str "modes")) (wCons (wC (.str "against")) (wCons (wC (.str "command")) (wCons (wC (.str "large")) (wCons (wC (.str "long")) (wCons (wC (.str "processes")) (wCons (wC (.str "full")) (wCons (wC (.str "place")) (wCons (wC (.str "point")) (wCons (wC (.str "unread")) wNil)))))))))))) (gN 4))
  (wSeq (wAsg (wOp (dAdd false) (wVar 4) (wLst false (wCons (wC (.str "name")) (wCons (wC (.str "undo")) (wCons (wC (.str "finished")) wNil))))) (gN 4))
  (wRet (wIf (wTest (wOp (dEq fun b => b) (wVar 3) (wLst false (wCons (wOp (dCmpI fun i j => decide (i < j)) (wVar 2) (wC (.int 14))) (wCons (wChain (dCmpI fun i j => decide (i < j)) (dCmpI fun i j => decide (i < j)) (wC (.int 13)) (wVar 2) (wC (.int 18))) (wCons (wOp (dCmpI fun i j => decide (j < i)) (wVar 2) (wC (.int 17))) (wCons (wC (.bl true)) wNil))))))) (wOp dIx (wVar 4) (wVar 2)) (wC (.str "odd")))))))))))))))))))
def w__law_field (z : Ad) : WS := (wSeq (wIfS (wTest (wOp (dIn false) (wVar 0) (wTup (wCons (wC (.str "mode")) (wCons (wC (.str "number")) (wCons (wC (.str "capacity")) (wCons (wC (.str "reading")) (wCons (wC (.str "bound")) wNil)))))))) (wRet (wLst false (wCons (wXFld [] "value" (wVar 1)) wNil))) wSkip)
  (wSeq (wIfS (wTest (wOp (dIn false) (wVar 0) (wTup (wCons (wC (.str "program")) (wCons (wC (.str "place")) wNil))))) (wRet (wLst false (wCons (wXFld [] "place" (wVar 1)) wNil))) wSkip)
  (wSeq (wIfS (wTest (wOp (dIn false) (wVar 0) (wTup (wCons (wC (.str "row")) (wCons (wC (.str "table")) wNil))))) (wRet (wLst false (wCons (wXFld [z.InvalidRow] "index" (wVar 1)) wNil))) wSkip)
  (wSeq (wIfS (wTest (wOp (dIn false) (wVar 0) (wTup (wCons (wC (.str "lossy")) (wCons (wC (.str "point")) wNil))))) (wRet (wLst false (wCons (wXFld [] "point" (wVar 1)) wNil))) wSkip)
  (wSeq (wIfS (wTest (wOp (dEq fun b => b) (wVar 0) (wC (.str "text")))) (wRet (wLst false (wCons (wXFld [] "line" (wVar 1)) (wCons (wXFld [] "word" (wVar 1)) wNil)))) wSkip)
  (wSeq (wIfS (wTest (wOp (dEq fun b => b) (wVar 0) (wC (.str "against")))) (wRet (wLst false (wCons (wXFld [] "first" (wVar 1)) (wCons (wXFld [] "second" (wVar 1)) wNil)))) wSkip)
  (wSeq (wIfS (wTest (wOp (dEq fun b => b) (wVar 0) (wC (.str "command")))) (wRet (wLst false (wCons (wXFld [] "command" (wVar 1)) wNil))) wSkip)
  (wSeq (wIfS (wTest (wOp (dEq fun b => b) (wVar 0) (wC (.str "large")))) (wRet (wLst false (wCons (wXFld [] "points" (wVar 1)) wNil))) wSkip)
  (wSeq (wIfS (wTest (wOp (dEq fun b => b) (wVar 0) (wC (.str "long")))) (wRet (wLst false (wCons (wXFld [] "length" (wVar 1)) wNil))) wSkip)
  (wRet (wCallP (S__law_more_field z) 2 (fun ds _ => ds) (wCons (wVar 0) (wCons (wVar 1) wNil)))))))))))))
def w__law_more_field (z : Ad) : WS := (wSeq (wIfS (wTest (wOp (dEq fun b => b) (wVar 0) (wC (.str "processes")))) (wRet (wLst false (wCons (wXFld [] "number" (wVar 1)) wNil))) wSkip)
  (wSeq (wIfS (wTest (wOp (dEq fun b => b) (wVar 0) (wC (.str "full")))) (wRet (wLst false (wCons (wXFld [] "limit" (wVar 1)) wNil))) wSkip)
  (wSeq (wIfS (wTest (wOp (dEq fun b => b) (wVar 0) (wC (.str "unread")))) (wRet (wLst false (wCons (wXFld [] "asked" (wVar 1)) wNil))) wSkip)
  (wSeq (wIfS (wTest (wOp (dEq fun b => b) (wVar 0) (wC (.str "name")))) (wRet (wLst false (wCons (wXFld [] "name" (wVar 1)) wNil))) wSkip)
  (wRet (wIf (wTest (wOp (dEq fun b => b) (wVar 0) (wC (.str "undo")))) (wLst false (wCons (wXFld [] "count" (wVar 1)) wNil)) (wLst false wNil)))))))
def w__law_heard (z : Ad) (d : D) (tl : Thk) : WS := (wSeq (wAsg (wC .non) (gN 1))
  (wSeq (wTry (errs z) 4 1 (wRet (wLst false (wCons (wAct 0 d tl) wNil))))
  (wSeq (wAsg (wCallP (S__law_word z) 1 (fun ds _ => ds) (wCons (wVar 1) wNil)) (gN 3))
  (wRet (wB dTupOf (wCons (wOp (dAdd false) (wLst false (wCons (wVar 3) wNil)) (wCallP (S__law_field z) 2 (fun ds _ => ds) (wCons (wVar 3) (wCons (wVar 1) wNil)))) wNil))))))
def w__law_sums (z : Ad) : WS := (wSeq (wAsg wDnew (gN 1))
  (wSeq (wFor (iSeq (wVar 0)) (gT 2 (gsCons (gN 2) (gsCons (gN 3) gsNil))) (wDput (wVar 1) (wVar 2) (wOp (dAdd false) (wGet2 (wVar 1) (wVar 2) (wC (.int 0))) (wVar 3))))
  (wRet (wB dTupP (wCons (wLc false (iSeq (wB (dSortD false) (wCons (wVar 1) wNil))) (gN 2) (wTest (wOp (dEq fun b => !b) (wDGet (wVar 1) (wVar 2)) (wC (.int 0)))) (wTup (wCons (wVar 2) (wCons (wDGet (wVar 1) (wVar 2)) wNil))) [2]) wNil)))))
def w__law_ledger (z : Ad) : WS := (wSeq (wIfS (wTest (wOp (dCmpI fun i j => decide (i < j)) (wB dLen (wCons (wVar 0) wNil)) (wC (.int 2)))) (wRet (wIf (wTest (wOp dNeE (wVar 0) (wLst false wNil))) (wMake z.Ledger (starS 1 (S_Ledger___init__ z)) (wCons (wOp dIx (wVar 0) (wC (.int 0))) wNil)) (wMake z.Ledger (starS 1 (S_Ledger___init__ z)) wNil))) wSkip)
  (wSeq (wIfS (wTest (wOp (dEq fun b => b) (wB dLen (wCons (wVar 0) wNil)) (wC (.int 2)))) (wRet (wMake z.Ledger (starS 1 (S_Ledger___init__ z)) (wCons (wOp dIx (wVar 0) (wC (.int 0))) (wCons (wOp dIx (wVar 0) (wC (.int 1))) wNil)))) wSkip)
  (wSeq (wIfS (wTest (wOp (dEq fun b => b) (wB dLen (wCons (wVar 0) wNil)) (wC (.int 3)))) (wRet (wMake z.Ledger (starS 1 (S_Ledger___init__ z)) (wCons (wOp dIx (wVar 0) (wC (.int 0))) (wCons (wOp dIx (wVar 0) (wC (.int 1))) (wCons (wOp dIx (wVar 0) (wC (.int 2))) wNil))))) wSkip)
  (wSeq (wIfS (wTest (wOp (dEq fun b => b) (wB dLen (wCons (wVar 0) wNil)) (wC (.int 4)))) (wRet (wMake z.Ledger (starS 1 (S_Ledger___init__ z)) (wCons (wOp dIx (wVar 0) (wC (.int 0))) (wCons (wOp dIx (wVar 0) (wC (.int 1))) (wCons (wOp dIx (wVar 0) (wC (.int 2))) (wCons (wOp dIx (wVar 0) (wC (.int 3))) wNil)))))) wSkip)
  (wSeq (wIfS (wTest (wOp (dEq fun b => b) (wB dLen (wCons (wVar 0) wNil)) (wC (.int 5)))) (wRet (wMake z.Ledger (starS 1 (S_Ledger___init__ z)) (wCons (wOp dIx (wVar 0) (wC (.int 0))) (wCons (wOp dIx (wVar 0) (wC (.int 1))) (wCons (wOp dIx (wVar 0) (wC (.int 2))) (wCons (wOp dIx (wVar 0) (wC (.int 3))) (wCons (wOp dIx (wVar 0) (wC (.int 4))) wNil))))))) wSkip)
  (wRet (wMake z.Ledger (starS 1 (S_Ledger___init__ z)) (wCons (wOp dIx (wVar 0) (wC (.int 0))) (wCons (wOp dIx (wVar 0) (wC (.int 1))) (wCons (wOp dIx (wVar 0) (wC (.int 2))) (wCons (wOp dIx (wVar 0) (wC (.int 3))) (wCons (wOp dIx (wVar 0) (wC (.int 4))) (wCons (wOp dIx (wVar 0) (wC (.int 5))) wNil)))))))))))))
def w__law_odd (z : Ad) : WS := (wSeq (wAsg (wLst false (wCons (wC .non) (wCons (wC (.int 5)) (wCons (wTup wNil) (wCons (wTup (wCons (wC (.int 1)) wNil)) (wCons (wTup (wCons (wC (.int 1)) (wCons (wC (.int 2)) (wCons (wC (.int 3)) wNil)))) (wCons (wLst false (wCons (wC (.int 1)) (wCons (wC (.int 2)) wNil))) (wCons (wTup (wCons (wC (.bl true)) (wCons (wC (.int 2)) wNil))) (wCons (wTup (wCons (wC (.int 1)) (wCons (wC (.bl false)) wNil))) (wCons (wTup (wCons (wNeg (wC (.int 1))) (wCons (wC (.int 2)) wNil))) (wCons (wTup (wCons (wOp (dAdd false) (wOp dPow (wC (.int 10)) (wC (.int 6))) (wC (.int 1))) (wCons (wC (.int 2)) wNil))) (wCons (wTup (wCons (wC (.str "1")) (wCons (wC (.int 2)) wNil))) wNil)))))))))))) (gN 1))
  (wRet (wOp dIx (wOp (dAdd false) (wVar 1) (wLst false (wCons (wTup (wCons (wC (.int 1)) (wCons (wC (.str "2")) wNil))) (wCons (wTup (wCons (wC (.int 1)) (wCons (wC .non) wNil))) (wCons (wTup (wCons (wTup (wCons (wC (.int 1)) (wCons (wC (.int 2)) wNil))) wNil)) (wCons wDnewF (wCons (wTup (wCons (wLst false (wCons (wC (.int 1)) wNil)) (wCons (wC (.int 2)) wNil))) (wCons (wC (.str "12")) wNil)))))))) (wCallP (F4.S__law_draw z) 2 (fun ds _ => ds) (wCons (wVar 0) (wCons (wC (.int 17)) wNil))))))
def w__law_refused_right (z : Ad) : WS := (wSeq (wAsg (wCallP (F4.S__law_draw z) 2 (fun ds _ => ds) (wCons (wVar 0) (wCons (wOp (dAdd false) (wB dLen (wCons (wVar 1) wNil)) (wC (.int 1))) wNil))) (gN 2))
  (wSeq (wAsg (wOp (dAdd false) (wOp (dAdd false) (wSl false (wVar 1) woNone (woSome (wVar 2))) (wLst false (wCons (wCallP (S__law_odd z) 1 (fun ds _ => ds) (wCons (wVar 0) wNil)) wNil))) (wSl false (wVar 1) (woSome (wVar 2)) woNone)) (gN 3))
  (wSeq (wIfS (wTest (wOp (dEq fun b => b) (wCallP (F4.S__law_draw z) 2 (fun ds _ => ds) (wCons (wVar 0) (wCons (wC (.int 3)) wNil))) (wC (.int 0)))) (wAsg (wOp (dAdd false) (wOp (dAdd false) (wSl false (wVar 3) woNone (woSome (wOp (dAdd false) (wVar 2) (wC (.int 1))))) (wLst false (wCons (wCallP (S__law_odd z) 1 (fun ds _ => ds) (wCons (wVar 0) wNil)) wNil))) (wSl false (wVar 3) (woSome (wOp (dAdd false) (wVar 2) (wC (.int 1)))) woNone)) (gN 3)) wSkip)
  (wSeq (wAsg (wSl false (wVar 3) woNone (woSome (wC (.int 6)))) (gN 3))
  (wSeq (wIfS (wTest (wOp (dCmpI fun i j => decide (j < i)) (wVar 2) (wC (.int 5)))) (wRet (wC (.bl true))) wSkip)
  (wRet (wOp (dEq fun b => b) (wB dRepr (wCons (wHeard (S__law_heard z) z.t0 (("_law_refused_right" : Str) ++ ".<locals>." ++ "<lambda>") (wCallP (S__law_ledger z) 1 (fun ds _ => ds) (wCons (wVar 3) wNil))) wNil)) (wB dRepr (wCons (wTup (wCons (wC (.str "row")) (wCons (wVar 2) wNil))) wNil)))))))))
def w__law_told_right (z : Ad) : WS := (wSeq (wAsg (wLst false (wCons (wProp z.Ledger (PL.S_Ledger_rows z) (wVar 0)) (wCons (wProp z.Ledger (PL.S_Ledger_greatest z) (wVar 0)) (wCons (wB (dLenO z.Ledger (PL.S_Ledger___len__ z)) (wCons (wVar 0) wNil)) (wCons (wB (dBoolO z.Ledger (PL.S_Ledger___len__ z)) (wCons (wVar 0) wNil)) (wCons (wB (dReprO z.Ledger (S_Ledger___repr__ z)) (wCons (wVar 0) wNil)) wNil)))))) (gN 2))
  (wSeq (wAsg (wIf (wTest (wOp dNeET (wVar 1) (wTup wNil))) (wOp dIx (wOp dIx (wVar 1) (wNeg (wC (.int 1)))) (wC (.int 0))) (wC .non)) (gN 3))
  (wSeq (wIfS (wTest (wOp (dEq fun b => !b) (wB dRepr (wCons (wVar 2) wNil)) (wB dRepr (wCons (wLst false (wCons (wVar 1) (wCons (wVar 3) (wCons (wB dLen (wCons (wVar 1) wNil)) (wCons (wOp dNeET (wVar 1) (wTup wNil)) (wCons (wOp (dAdd false) (wOp (dAdd false) (wC (.str "Ledger(")) (wB dStrI (wCons (wB dLen (wCons (wVar 1) wNil)) wNil))) (wC (.str " rows)"))) wNil)))))) wNil)))) (wRet (wC (.bl false))) wSkip)
  (wSeq (wAsg (wB (dDictP true) (wCons (wVar 1) wNil)) (gN 4))
  (wSeq (wFor (iSeq (wOp (dAdd false) (wLst false (wCons (wC (.int 0)) (wCons (wC (.int 1)) (wCons (wC (.int 2)) (wCons (wC (.int 3)) (wCons (wNeg (wC (.int 1))) (wCons (wC (.int 2520)) (wCons (wOp dPow (wC (.int 10)) (wC (.int 6))) (wCons (wOp (dAdd false) (wOp dPow (wC (.int 10)) (wC (.int 6))) (wC (.int 1))) (wCons (wOp dPow (wC (.int 10)) (wC (.int 40))) wNil)))))))))) (wB (dListD false) (wCons (wVar 4) wNil)))) (gN 5) (wIfS (wOr (wTest (wOp (dEq fun b => !b) (wB dRepr (wCons (wOp (dIxOwn z.Ledger (S_Ledger___getitem__ z)) (wVar 0) (wVar 5)) wNil)) (wB dRepr (wCons (wGet2 (wVar 4) (wVar 5) (wC (.int 0))) wNil)))) (wTest (wOp (dEq fun b => !b) (wInX false z.Ledger (S_Ledger___contains__ z) (wVar 5) (wVar 0)) (wOp (dDin fun b => b) (wVar 5) (wVar 4))))) (wRet (wC (.bl false))) wSkip))
  (wSeq (wAsg (wLst false (wCons (wC .non) (wCons (wC (.str "1")) (wCons (wTup (wCons (wC (.int 1)) wNil)) (wCons (wLst false wNil) (wCons wDnewF (wCons (wC (.bl true)) (wCons (wC (.bl false)) (wCons (wTup (wCons (wC (.int 1)) (wCons (wC (.int 1)) wNil))) (wCons (wLst false (wCons (wC (.int 2520)) wNil)) wNil)))))))))) (gN 6))
  (wRet (wOp dEqE (wLc false (iSeq (wVar 6)) (gN 7) (wTest (wOp (dIsN fun b => !b) (wInX false z.Ledger (S_Ledger___contains__ z) (wVar 7) (wVar 0)) (wC (.bl false)))) (wVar 7) [7]) (wLst false wNil)))))))))
def w__law_alike_right (z : Ad) : WS := (wSeq (wAsg (wCallP (S__law_sums z) 1 (fun ds _ => ds) (wCons (wVar 1) wNil)) (gN 2))
  (wSeq (wAsg (wCallP (S__law_ledger z) 1 (fun ds _ => ds) (wCons (wRev false (wVar 1)) wNil)) (gN 3))
  (wSeq (wAsg (wOp (dOwn2 z.Ledger (S_Ledger___add__ z)) (wMake z.Ledger (starS 1 (S_Ledger___init__ z)) (wCons (wTup (wCons (wC (.int 7)) (wCons (wC (.int 1)) wNil))) wNil)) (wVar 0)) (gN 4))
  (wSeq (wIfS (wTest (wOp (dEq fun b => !b) (wLst false (wCons (wOp (dOwnC z.Ledger (S_Ledger___eq__ z) fun b => b) (wVar 0) (wVar 3)) (wCons (wOp (dOwnC z.Ledger (S_Ledger___eq__ z) fun b => b) (wVar 3) (wVar 0)) (wCons (wOp (dOwnC z.Ledger (S_Ledger___eq__ z) fun b => !b) (wVar 0) (wVar 3)) (wCons (wOp (dOwnC z.Ledger (S_Ledger___eq__ z) fun b => b) (wVar 0) (wVar 4)) (wCons (wOp (dOwnC z.Ledger (S_Ledger___eq__ z) fun b => !b) (wVar 0) (wVar 4)) wNil)))))) (wLst false (wCons (wC (.bl true)) (wCons (wC (.bl true)) (wCons (wC (.bl false)) (wCons (wC (.bl false)) (wCons (wC (.bl true)) wNil)))))))) (wRet (wC (.bl false))) wSkip)
  (wRet (wOp dEqE (wLc false (iSeq (wLst false (wCons (wVar 2) (wCons (wB (dListOf false) (wCons (wVar 2) wNil)) (wCons (wC .non) (wCons (wC (.int 0)) (wCons (wB (dDictP true) (wCons (wVar 2) wNil)) (wCons (wB (dReprO z.Ledger (S_Ledger___repr__ z)) (wCons (wVar 0) wNil)) wNil)))))))) (gN 5) (wOr (wTest (wOp (dOwnA z.Ledger (S_Ledger___eq__ z) fun b => b) (wVar 0) (wVar 5))) (wNot (wTest (wOp (dOwnA z.Ledger (S_Ledger___eq__ z) fun b => !b) (wVar 0) (wVar 5))))) (wVar 5) [5]) (wLst false wNil)))))))
def w__law_long_right (z : Ad) : WS := (wSeq (wAsg (wLc true (iRng1 (wCons (wC (.int 10)) wNil)) (gN 5) wYes (wTup (wCons (wOp dSub (wC (.int 9)) (wVar 5)) (wCons (wOp (dAdd false) (wVar 5) (wC (.int 1))) wNil))) [5]) (gN 1))
  (wSeq (wAsg (wMake z.Ledger (starS 1 (S_Ledger___init__ z)) (wCons (wOp dIx (wVar 1) (wC (.int 0))) (wCons (wOp dIx (wVar 1) (wC (.int 1))) (wCons (wOp dIx (wVar 1) (wC (.int 2))) (wCons (wOp dIx (wVar 1) (wC (.int 3))) (wCons (wOp dIx (wVar 1) (wC (.int 4))) (wCons (wOp dIx (wVar 1) (wC (.int 5))) (wCons (wOp dIx (wVar 1) (wC (.int 6))) (wCons (wOp dIx (wVar 1) (wC (.int 7))) (wCons (wOp dIx (wVar 1) (wC (.int 8))) (wCons (wOp dIx (wVar 1) (wC (.int 9))) wNil))))))))))) (gN 2))
  (wSeq (wIfS (wTest (wOp (dEq fun b => !b) (wProp z.Ledger (PL.S_Ledger_rows z) (wVar 2)) (wB dTupOf (wCons (wLc false (iRng1 (wCons (wC (.int 10)) wNil)) (gN 5) wYes (wTup (wCons (wVar 5) (wCons (wOp dSub (wC (.int 10)) (wVar 5)) wNil))) [5]) wNil)))) (wRet (wC (.bl false))) wSkip)
  (wSeq (wAsg (wOp (dAdd false) (wC (.int 6)) (wCallP (F4.S__law_draw z) 2 (fun ds _ => ds) (wCons (wVar 0) (wCons (wC (.int 4)) wNil)))) (gN 3))
  (wSeq (wAsg (wCallP (S__law_odd z) 1 (fun ds _ => ds) (wCons (wVar 0) wNil)) (gSubL (wVar 1) (wVar 3)))
  (wSeq (wAsg (wHeard (S__law_heard z) z.t1 (("_law_long_right" : Str) ++ ".<locals>." ++ "<lambda>") (wMake z.Ledger (starS 1 (S_Ledger___init__ z)) (wCons (wOp dIx (wVar 1) (wC (.int 0))) (wCons (wOp dIx (wVar 1) (wC (.int 1))) (wCons (wOp dIx (wVar 1) (wC (.int 2))) (wCons (wOp dIx (wVar 1) (wC (.int 3))) (wCons (wOp dIx (wVar 1) (wC (.int 4))) (wCons (wOp dIx (wVar 1) (wC (.int 5))) (wCons (wOp dIx (wVar 1) (wC (.int 6))) (wCons (wOp dIx (wVar 1) (wC (.int 7))) (wCons (wOp dIx (wVar 1) (wC (.int 8))) (wCons (wOp dIx (wVar 1) (wC (.int 9))) wNil)))))))))))) (gN 4))
  (wRet (wOp (dEq fun b => b) (wVar 4) (wTup (wCons (wC (.str "row")) (wCons (wVar 3) wNil)))))))))))
def w_law (z : Ad) : WS := (wSeq (wAsg (wCallP (F4.S__law_pen z) 1 (fun ds _ => ds) (wCons (wVar 0) wNil)) (gN 1))
  (wSeq (wIfS (wNot (wTest (wCallP (S__law_long_right z) 1 (fun ds _ => ds) (wCons (wVar 1) wNil)))) (wRet (wC (.bl false))) wSkip)
  (wSeq (wFor (iRng1 (wCons (wC (.int 5)) wNil)) (gN 2) (wSeq (wAsg (wCallP (K26.S__law_rows z) 2 (fun ds _ => ds) (wCons (wVar 1) (wCons (wC (.int 6)) wNil))) (gN 3))
  (wSeq (wAsg (wB (dListOf false) (wCons (wVar 3) wNil)) (gN 4))
  (wSeq (wAsg (wCallP (S__law_ledger z) 1 (fun ds _ => ds) (wCons (wVar 3) wNil)) (gN 5))
  (wSeq (wIfS (wOr (wNot (wTest (wCallP (S__law_told_right z) 2 (fun ds _ => ds) (wCons (wVar 5) (wCons (wCallP (S__law_sums z) 1 (fun ds _ => ds) (wCons (wVar 3) wNil)) wNil))))) (wOr (wNot (wTest (wCallP (S__law_alike_right z) 2 (fun ds _ => ds) (wCons (wVar 5) (wCons (wVar 3) wNil))))) (wTest (wOp (dEq fun b => !b) (wVar 3) (wVar 4))))) (wRet (wC (.bl false))) wSkip)
  (wIfS (wOr (wNot (wTest (wCallP (S__law_refused_right z) 2 (fun ds _ => ds) (wCons (wVar 1) (wCons (wVar 3) wNil))))) (wNot (wTest (wCallP (S__law_told_right z) 2 (fun ds _ => ds) (wCons (wVar 5) (wCons (wCallP (S__law_sums z) 1 (fun ds _ => ds) (wCons (wVar 3) wNil)) wNil)))))) (wRet (wC (.bl false))) wSkip))))))
  (wSeq (wAsg (wMake z.Ledger (starS 1 (S_Ledger___init__ z)) (wCons (wTup (wCons (wC (.int 9)) (wCons (wC (.int 1)) wNil))) (wCons (wTup (wCons (wC (.int 8)) (wCons (wC (.int 1)) wNil))) (wCons (wTup (wCons (wC (.int 7)) (wCons (wC (.int 1)) wNil))) (wCons (wTup (wCons (wC (.int 6)) (wCons (wC (.int 1)) wNil))) (wCons (wTup (wCons (wC (.int 5)) (wCons (wC (.int 1)) wNil))) (wCons (wTup (wCons (wC (.int 4)) (wCons (wC (.int 1)) wNil))) (wCons (wTup (wCons (wC (.int 3)) (wCons (wC (.int 1)) wNil))) (wCons (wTup (wCons (wC (.int 8)) (wCons (wNeg (wC (.int 1))) wNil))) (wCons (wTup (wCons (wC (.int 1)) (wCons (wC (.int 5)) wNil))) wNil)))))))))) (gN 6))
  (wSeq (wIfS (wTest (wOp (dEq fun b => !b) (wProp z.Ledger (PL.S_Ledger_rows z) (wVar 6)) (wTup (wCons (wTup (wCons (wC (.int 1)) (wCons (wC (.int 5)) wNil))) (wCons (wTup (wCons (wC (.int 3)) (wCons (wC (.int 1)) wNil))) (wCons (wTup (wCons (wC (.int 4)) (wCons (wC (.int 1)) wNil))) (wCons (wTup (wCons (wC (.int 5)) (wCons (wC (.int 1)) wNil))) (wCons (wTup (wCons (wC (.int 6)) (wCons (wC (.int 1)) wNil))) (wCons (wTup (wCons (wC (.int 7)) (wCons (wC (.int 1)) wNil))) (wCons (wTup (wCons (wC (.int 9)) (wCons (wC (.int 1)) wNil))) wNil)))))))))) (wRet (wC (.bl false))) wSkip)
  (wRet (wAndV (wOp (dOwnC z.Ledger (S_Ledger___eq__ z) fun b => b) (wMake z.Ledger (starS 1 (S_Ledger___init__ z)) (wCons (wTup (wCons (wC (.int 3)) (wCons (wC (.int 1)) wNil))) (wCons (wTup (wCons (wC (.int 3)) (wCons (wNeg (wC (.int 1))) wNil))) wNil))) (wMake z.Ledger (starS 1 (S_Ledger___init__ z)) wNil)) (wAndV (wNotO z.Ledger (PL.S_Ledger___len__ z) (wMake z.Ledger (starS 1 (S_Ledger___init__ z)) (wCons (wTup (wCons (wC (.int 0)) (wCons (wC (.int 0)) wNil))) wNil))) (wOp (dEq fun b => b) (wB dRepr (wCons (wProp z.Ledger (PL.S_Ledger_greatest z) (wMake z.Ledger (starS 1 (S_Ledger___init__ z)) (wCons (wTup (wCons (wC (.int 0)) (wCons (wC (.int 5)) wNil))) wNil))) wNil)) (wC (.str "0")))))))))))
theorem len_is_row (z : Ad) : ∀ ds h Q X, S_is_row z ds h Q X → ds.length = 1 := fun _ _ _ _ ⟨_, _, e, _⟩ => by rw [e]; rfl
theorem mo_is_row (z : Ad) : MoF (S_is_row z) := fun _ _ _ _ _ _ hq _ ⟨a, b, e, o, q⟩ => ⟨a, b, e, o, hq _ _ q⟩
theorem len_Ledger___init__ (z : Ad) : ∀ ds h Q X, S_Ledger___init__ z ds h Q X → ds.length = 2 := fun _ _ _ _ ⟨_, _, _, e, _⟩ => by rw [e]; rfl
theorem mo_Ledger___init__ (z : Ad) : MoF (S_Ledger___init__ z) := fun _ _ _ _ _ _ hq hx ⟨a, b, c, e, o1, o2, o3, m⟩ => ⟨a, b, c, e, o1, o2, o3, m.mo (fun q es k1 k2 => hq _ _ (q es k1 k2)) hx⟩
theorem len_Ledger___getitem__ (z : Ad) : ∀ ds h Q X, S_Ledger___getitem__ z ds h Q X → ds.length = 2 := len_getit z.Ledger
theorem mo_Ledger___getitem__ (z : Ad) : MoF (S_Ledger___getitem__ z) := mo_getit z.Ledger
theorem len_Ledger___contains__ (z : Ad) : ∀ ds h Q X, S_Ledger___contains__ z ds h Q X → ds.length = 2 := fun _ _ _ _ ⟨_, _, _, e, _⟩ => by rw [e]; rfl
theorem mo_Ledger___contains__ (z : Ad) : MoF (S_Ledger___contains__ z) := fun _ _ _ _ _ _ hq _ ⟨a, b, c, e, o, q⟩ => ⟨a, b, c, e, o, hq _ _ q⟩
theorem len_Ledger___add__ (z : Ad) : ∀ ds h Q X, S_Ledger___add__ z ds h Q X → ds.length = 2 := PL.len_Ledger___add__ z
theorem mo_Ledger___add__ (z : Ad) : MoF (S_Ledger___add__ z) := PL.mo_Ledger___add__ z
theorem len_Ledger___eq__ (z : Ad) : ∀ ds h Q X, S_Ledger___eq__ z ds h Q X → ds.length = 2 := fun _ _ _ _ ⟨_, _, e, _⟩ => by rw [e]; rfl
theorem mo_Ledger___eq__ (z : Ad) : MoF (S_Ledger___eq__ z) := fun _ _ _ _ _ _ hq _ ⟨a, b, e, o, q⟩ => ⟨a, b, e, o, q.imp (fun ⟨c, e, o, q⟩ => ⟨c, e, o, hq _ _ q⟩) fun ⟨n, o, q⟩ => ⟨n, o, hq _ _ q⟩⟩
theorem len_Ledger___repr__ (z : Ad) : ∀ ds h Q X, S_Ledger___repr__ z ds h Q X → ds.length = 1 := fun _ _ _ _ ⟨_, e, _⟩ => by rw [e]; rfl
theorem mo_Ledger___repr__ (z : Ad) : MoF (S_Ledger___repr__ z) := fun _ _ _ _ _ _ hq _ ⟨a, e, o, q⟩ => ⟨a, e, o, hq _ _ q⟩
theorem len__law_word (z : Ad) : ∀ ds h Q X, S__law_word z ds h Q X → ds.length = 1 := fun _ _ _ _ ⟨_, _, _, _, e, _⟩ => by rw [e]; rfl
theorem mo__law_word (z : Ad) : MoF (S__law_word z) := fun _ _ _ _ _ _ hq _ ⟨a, b, c, d, e, o1, q⟩ => ⟨a, b, c, d, e, o1, hq _ _ q⟩
theorem len__law_field (z : Ad) : ∀ ds h Q X, S__law_field z ds h Q X → ds.length = 2 := fun _ _ _ _ ⟨_, _, _, _, e, _⟩ => by rw [e]; rfl
theorem mo__law_field (z : Ad) : MoF (S__law_field z) := fun _ _ _ _ _ _ hq _ ⟨a, b, c, d, e, o1, q⟩ => ⟨a, b, c, d, e, o1, hq _ _ q⟩
theorem len__law_more_field (z : Ad) : ∀ ds h Q X, S__law_more_field z ds h Q X → ds.length = 2 := fun _ _ _ _ q => q.1
theorem mo__law_more_field (z : Ad) : MoF (S__law_more_field z) := fun _ _ _ _ _ _ _ _ q => q
theorem mo__law_heard (z : Ad) : MoH (S__law_heard z) := fun t mt h Q Q' X X' hq hx q => mt _ _ _ _ _ (fun _ h z => hq _ h z) (fun x h ⟨C, fs, w, v, e1, e2, z⟩ => ⟨C, fs, w, v, e1, e2, hq _ _ z⟩) q
theorem len__law_sums (z : Ad) : ∀ ds h Q X, S__law_sums z ds h Q X → ds.length = 1 := fun _ _ _ _ ⟨_, e, _⟩ => by rw [e]; rfl
theorem mo__law_sums (z : Ad) : MoF (S__law_sums z) := fun _ _ _ _ _ _ hq _ ⟨a, e, o, q⟩ => ⟨a, e, o, fun es k l => hq _ _ (q es k l)⟩
theorem len__law_ledger (z : Ad) : ∀ ds h Q X, S__law_ledger z ds h Q X → ds.length = 1 := fun _ _ _ _ ⟨_, _, e, _⟩ => by rw [e]; rfl
theorem mo__law_ledger (z : Ad) : MoF (S__law_ledger z) := fun _ _ _ _ _ _ hq hx ⟨a, b, e, o1, o2, m⟩ => ⟨a, b, e, o1, o2, m.mo (fun q gs k1 k2 k3 => hq _ _ (q gs k1 k2 k3)) hx⟩
theorem len__law_odd (z : Ad) : ∀ ds h Q X, S__law_odd z ds h Q X → ds.length = 1 := fun _ _ _ _ ⟨_, _, e, _⟩ => by rw [e]; rfl
theorem mo__law_odd (z : Ad) : MoF (S__law_odd z) := fun _ _ _ _ _ _ hq _ ⟨a, b, e, o1, o2, q⟩ => ⟨a, b, e, o1, o2, fun x o k l => hq _ _ (q x o k l)⟩
theorem len__law_refused_right (z : Ad) : ∀ ds h Q X, S__law_refused_right z ds h Q X → ds.length = 2 := fun _ _ _ _ ⟨_, _, _, e, _⟩ => by rw [e]; rfl
theorem mo__law_refused_right (z : Ad) : MoF (S__law_refused_right z) := fun _ _ _ _ _ _ hq _ ⟨a, b, c, e, o1, o2, o3, o4, q⟩ => ⟨a, b, c, e, o1, o2, o3, o4, fun o k => hq _ _ (q o k)⟩
theorem len__law_told_right (z : Ad) : ∀ ds h Q X, S__law_told_right z ds h Q X → ds.length = 2 := fun _ _ _ _ ⟨_, e, _⟩ => by rw [e]; rfl
theorem mo__law_told_right (z : Ad) : MoF (S__law_told_right z) := fun _ _ _ _ _ _ hq _ ⟨a, e, o1, o2, o3, o4, q⟩ => ⟨a, e, o1, o2, o3, o4, hq _ _ q⟩
theorem len__law_alike_right (z : Ad) : ∀ ds h Q X, S__law_alike_right z ds h Q X → ds.length = 2 := fun _ _ _ _ ⟨_, _, e, _⟩ => by rw [e]; rfl
theorem mo__law_alike_right (z : Ad) : MoF (S__law_alike_right z) := fun _ _ _ _ _ _ hq _ ⟨a, b, e, o1, o2, o3, o4, q⟩ => ⟨a, b, e, o1, o2, o3, o4, hq _ _ q⟩
theorem len__law_long_right (z : Ad) : ∀ ds h Q X, S__law_long_right z ds h Q X → ds.length = 1 := fun _ _ _ _ ⟨_, _, e, _⟩ => by rw [e]; rfl
theorem mo__law_long_right (z : Ad) : MoF (S__law_long_right z) := fun _ _ _ _ _ _ hq _ ⟨a, b, e, o1, o2, o3, q⟩ => ⟨a, b, e, o1, o2, o3, fun o k => hq _ _ (q o k)⟩
theorem len_law (z : Ad) : ∀ ds h Q X, S_law z ds h Q X → ds.length = 1 := fun _ _ _ _ ⟨_, e, _⟩ => by rw [e]; rfl
theorem mo_law (z : Ad) : MoF (S_law z) := fun _ _ _ _ _ _ hq _ ⟨a, e, o, q⟩ => ⟨a, e, o, fun h' => hq _ _ (q h')⟩
theorem law_at (z : Ad) : ∀ (js : List Int) (h : AH), js.length ≤ 63 → Tb z h → S_law z [.lk (js.map D.int)] h (fun d _ => d = .bl true) (fun _ _ => False) := fun js h _ t => ⟨js, rfl, t, fun _ => rfl⟩
end K25
namespace K25
open PySem PySem.Spec L2 C8 DL PK PL PQ PN PB F4 PR
open K26 (isX_go addL_go same_ref fl_bls in_str)
theorem p__law_word (z : Ad) : ∀ ds h Q X, S__law_word z ds h Q X → w__law_word z (endsD Q X) (startD 5 ds) h := by
  rintro ds h Q X ⟨C, fs, w, v, rfl, hw, q⟩
  show w__law_word z (endsD Q X) [some (.xob C fs), none, none, none, none] h
  unfold w__law_word
  cases hw with
  | row v =>
    try dsimp only [List.set_cons_zero, List.set_cons_succ]
    rw [u_seq]
    simp only [u_asg, u_gN, u_ret, u_retN, u_skip, u_expr, u_ifs, u_c, u_op, u_neg, u_test, u_and, u_or, u_not, u_if, u_nil, u_cons, u_tup, u_lst, u_callP, u_call, u_b, u_chain, u_andV, u_addI, u_subI, u_mulI, u_divI, u_modI, u_powI, u_cmpI, u_eqI, u_eqS, u_eqB, u_abs, u_intI, u_intB, u_newT, u_newF, u_isN, u_notN, wVar, List.set_cons_zero, List.set_cons_succ, List.getElem?_cons_zero, List.getElem?_cons_succ, List.length_cons, List.length_nil, u_lc, u_for, u_r1, u_r2, u_r3, u_num, u_notV, u_yes, u_w0, u_w1, u_dput, u_get2, u_dget, u_prop, u_fld, u_setF, u_make, u_makeS, u_met, u_calO, u_orT, u_tupIt, u_dc, u_maxDd, u_dnew, u_tupi, ix_p0, ix_p1, wSl, woNone, woSome]
    refine isX_go (b := false) (by simp [xtab])  (isX_go (b := false) (by simp [xtab])  (isX_go (b := false) (by simp [xtab])  ?_))
    refine ⟨sz_le (show 3 ≤ 100000 by decide), ?_⟩
    try dsimp only [List.cons_append, List.nil_append]
    try dsimp only [List.set_cons_zero, List.set_cons_succ]
    rw [u_seq]
    simp only [u_asg, u_gN, u_ret, u_retN, u_skip, u_expr, u_ifs, u_c, u_op, u_neg, u_test, u_and, u_or, u_not, u_if, u_nil, u_cons, u_tup, u_lst, u_callP, u_call, u_b, u_chain, u_andV, u_addI, u_subI, u_mulI, u_divI, u_modI, u_powI, u_cmpI, u_eqI, u_eqS, u_eqB, u_abs, u_intI, u_intB, u_newT, u_newF, u_isN, u_notN, wVar, List.set_cons_zero, List.set_cons_succ, List.getElem?_cons_zero, List.getElem?_cons_succ, List.length_cons, List.length_nil, u_lc, u_for, u_r1, u_r2, u_r3, u_num, u_notV, u_yes, u_w0, u_w1, u_dput, u_get2, u_dget, u_prop, u_fld, u_setF, u_make, u_makeS, u_met, u_calO, u_orT, u_tupIt, u_dc, u_maxDd, u_dnew, u_tupi, ix_p0, ix_p1, wSl, woNone, woSome]
    refine isX_go (b := false) (by simp [xtab])  (isX_go (b := false) (by simp [xtab])  (isX_go (b := false) (by simp [xtab])  ?_))
    refine ⟨sz_le (show 3 ≤ 100000 by decide), ?_⟩
    refine addL_go (by decide) ?_
    try dsimp only [List.cons_append, List.nil_append]
    try dsimp only [List.set_cons_zero, List.set_cons_succ]
    rw [u_seq]
    simp only [u_asg, u_gN, u_ret, u_retN, u_skip, u_expr, u_ifs, u_c, u_op, u_neg, u_test, u_and, u_or, u_not, u_if, u_nil, u_cons, u_tup, u_lst, u_callP, u_call, u_b, u_chain, u_andV, u_addI, u_subI, u_mulI, u_divI, u_modI, u_powI, u_cmpI, u_eqI, u_eqS, u_eqB, u_abs, u_intI, u_intB, u_newT, u_newF, u_isN, u_notN, wVar, List.set_cons_zero, List.set_cons_succ, List.getElem?_cons_zero, List.getElem?_cons_succ, List.length_cons, List.length_nil, u_lc, u_for, u_r1, u_r2, u_r3, u_num, u_notV, u_yes, u_w0, u_w1, u_dput, u_get2, u_dget, u_prop, u_fld, u_setF, u_make, u_makeS, u_met, u_calO, u_orT, u_tupIt, u_dc, u_maxDd, u_dnew, u_tupi, ix_p0, ix_p1, wSl, woNone, woSome]
    refine isX_go (b := true) (by simp [xtab])  (isX_go (b := false) (by simp [xtab])  (isX_go (b := false) (by simp [xtab])  ?_))
    refine ⟨sz_le (show 3 ≤ 100000 by decide), ?_⟩
    refine addL_go (by decide) ?_
    try dsimp only [List.cons_append, List.nil_append]
    try dsimp only [List.set_cons_zero, List.set_cons_succ]
    rw [u_seq]
    simp only [u_asg, u_gN, u_ret, u_retN, u_skip, u_expr, u_ifs, u_c, u_op, u_neg, u_test, u_and, u_or, u_not, u_if, u_nil, u_cons, u_tup, u_lst, u_callP, u_call, u_b, u_chain, u_andV, u_addI, u_subI, u_mulI, u_divI, u_modI, u_powI, u_cmpI, u_eqI, u_eqS, u_eqB, u_abs, u_intI, u_intB, u_newT, u_newF, u_isN, u_notN, wVar, List.set_cons_zero, List.set_cons_succ, List.getElem?_cons_zero, List.getElem?_cons_succ, List.length_cons, List.length_nil, u_lc, u_for, u_r1, u_r2, u_r3, u_num, u_notV, u_yes, u_w0, u_w1, u_dput, u_get2, u_dget, u_prop, u_fld, u_setF, u_make, u_makeS, u_met, u_calO, u_orT, u_tupIt, u_dc, u_maxDd, u_dnew, u_tupi, ix_p0, ix_p1, wSl, woNone, woSome]
    refine isX_go (b := false) (by simp [xtab])  (isX_go (b := false) (by simp [xtab])  (isX_go (b := false) (by simp [xtab])  ?_))
    refine ⟨sz_le (show 3 ≤ 100000 by decide), ?_⟩
    refine addL_go (by decide) ?_
    try dsimp only [List.cons_append, List.nil_append]
    try dsimp only [List.set_cons_zero, List.set_cons_succ]
    rw [u_seq]
    simp only [u_asg, u_gN, u_ret, u_retN, u_skip, u_expr, u_ifs, u_c, u_op, u_neg, u_test, u_and, u_or, u_not, u_if, u_nil, u_cons, u_tup, u_lst, u_callP, u_call, u_b, u_chain, u_andV, u_addI, u_subI, u_mulI, u_divI, u_modI, u_powI, u_cmpI, u_eqI, u_eqS, u_eqB, u_abs, u_intI, u_intB, u_newT, u_newF, u_isN, u_notN, wVar, List.set_cons_zero, List.set_cons_succ, List.getElem?_cons_zero, List.getElem?_cons_succ, List.length_cons, List.length_nil, u_lc, u_for, u_r1, u_r2, u_r3, u_num, u_notV, u_yes, u_w0, u_w1, u_dput, u_get2, u_dget, u_prop, u_fld, u_setF, u_make, u_makeS, u_met, u_calO, u_orT, u_tupIt, u_dc, u_maxDd, u_dnew, u_tupi, ix_p0, ix_p1, wSl, woNone, woSome]
    refine isX_go (b := false) (by simp [xtab])  (isX_go (b := false) (by simp [xtab])  (isX_go (b := false) (by simp [xtab])  ?_))
    refine ⟨sz_le (show 3 ≤ 100000 by decide), ?_⟩
    refine addL_go (by decide) ?_
    try dsimp only [List.cons_append, List.nil_append]
    try dsimp only [List.set_cons_zero, List.set_cons_succ]
    rw [u_seq]
    simp only [u_asg, u_gN, u_ret, u_retN, u_skip, u_expr, u_ifs, u_c, u_op, u_neg, u_test, u_and, u_or, u_not, u_if, u_nil, u_cons, u_tup, u_lst, u_callP, u_call, u_b, u_chain, u_andV, u_addI, u_subI, u_mulI, u_divI, u_modI, u_powI, u_cmpI, u_eqI, u_eqS, u_eqB, u_abs, u_intI, u_intB, u_newT, u_newF, u_isN, u_notN, wVar, List.set_cons_zero, List.set_cons_succ, List.getElem?_cons_zero, List.getElem?_cons_succ, List.length_cons, List.length_nil, u_lc, u_for, u_r1, u_r2, u_r3, u_num, u_notV, u_yes, u_w0, u_w1, u_dput, u_get2, u_dget, u_prop, u_fld, u_setF, u_make, u_makeS, u_met, u_calO, u_orT, u_tupIt, u_dc, u_maxDd, u_dnew, u_tupi, ix_p0, ix_p1, wSl, woNone, woSome]
    refine isX_go (b := false) (by simp [xtab])  (isX_go (b := false) (by simp [xtab])  (isX_go (b := false) (by simp [xtab])  ?_))
    refine ⟨sz_le (show 3 ≤ 100000 by decide), ?_⟩
    refine addL_go (by decide) ?_
    try dsimp only [List.cons_append, List.nil_append]
    try dsimp only [List.set_cons_zero, List.set_cons_succ]
    rw [u_seq]
    simp only [u_asg, u_gN, u_ret, u_retN, u_skip, u_expr, u_ifs, u_c, u_op, u_neg, u_test, u_and, u_or, u_not, u_if, u_nil, u_cons, u_tup, u_lst, u_callP, u_call, u_b, u_chain, u_andV, u_addI, u_subI, u_mulI, u_divI, u_modI, u_powI, u_cmpI, u_eqI, u_eqS, u_eqB, u_abs, u_intI, u_intB, u_newT, u_newF, u_isN, u_notN, wVar, List.set_cons_zero, List.set_cons_succ, List.getElem?_cons_zero, List.getElem?_cons_succ, List.length_cons, List.length_nil, u_lc, u_for, u_r1, u_r2, u_r3, u_num, u_notV, u_yes, u_w0, u_w1, u_dput, u_get2, u_dget, u_prop, u_fld, u_setF, u_make, u_makeS, u_met, u_calO, u_orT, u_tupIt, u_dc, u_maxDd, u_dnew, u_tupi, ix_p0, ix_p1, wSl, woNone, woSome]
    refine isX_go (b := false) (by simp [xtab])  (isX_go (b := false) (by simp [xtab])  (isX_go (b := false) (by simp [xtab])  ?_))
    refine ⟨sz_le (show 3 ≤ 100000 by decide), ?_⟩
    refine addL_go (by decide) ?_
    try dsimp only [List.cons_append, List.nil_append]
    try dsimp only [List.set_cons_zero, List.set_cons_succ]
    rw [u_seq]
    simp only [u_asg, u_gN, u_ret, u_retN, u_skip, u_expr, u_ifs, u_c, u_op, u_neg, u_test, u_and, u_or, u_not, u_if, u_nil, u_cons, u_tup, u_lst, u_callP, u_call, u_b, u_chain, u_andV, u_addI, u_subI, u_mulI, u_divI, u_modI, u_powI, u_cmpI, u_eqI, u_eqS, u_eqB, u_abs, u_intI, u_intB, u_newT, u_newF, u_isN, u_notN, wVar, List.set_cons_zero, List.set_cons_succ, List.getElem?_cons_zero, List.getElem?_cons_succ, List.length_cons, List.length_nil, u_lc, u_for, u_r1, u_r2, u_r3, u_num, u_notV, u_yes, u_w0, u_w1, u_dput, u_get2, u_dget, u_prop, u_fld, u_setF, u_make, u_makeS, u_met, u_calO, u_orT, u_tupIt, u_dc, u_maxDd, u_dnew, u_tupi, ix_p0, ix_p1, wSl, woNone, woSome]
    refine isX_go (b := false) (by simp [xtab])  (isX_go (b := false) (by simp [xtab])  (isX_go (b := false) (by simp [xtab])  ?_))
    refine ⟨sz_le (show 3 ≤ 100000 by decide), ?_⟩
    refine addL_go (by decide) ?_
    try dsimp only [List.cons_append, List.nil_append]
    try dsimp only [List.set_cons_zero, List.set_cons_succ]
    rw [u_seq]
    simp only [wMethT, u_asg, u_gN, u_ret, u_retN, u_skip, u_expr, u_ifs, u_c, u_op, u_neg, u_test, u_and, u_or, u_not, u_if, u_nil, u_cons, u_tup, u_lst, u_callP, u_call, u_b, u_chain, u_andV, u_addI, u_subI, u_mulI, u_divI, u_modI, u_powI, u_cmpI, u_eqI, u_eqS, u_eqB, u_abs, u_intI, u_intB, u_newT, u_newF, u_isN, u_notN, wVar, List.set_cons_zero, List.set_cons_succ, List.getElem?_cons_zero, List.getElem?_cons_succ, List.length_cons, List.length_nil, u_lc, u_for, u_r1, u_r2, u_r3, u_num, u_notV, u_yes, u_w0, u_w1, u_dput, u_get2, u_dget, u_prop, u_fld, u_setF, u_make, u_makeS, u_met, u_calO, u_orT, u_tupIt, u_dc, u_maxDd, u_dnew, u_tupi, ix_p0, ix_p1, wSl, woNone, woSome]
    refine ⟨⟨_, rfl⟩, [false, false, false, false, false, false, true, false, false, false, false, false, false, false, false, false, false, false, false, false, false, false, false, false], true, rfl, rfl, ?_⟩
    dsimp only
    rw [u_eqI, show (!decide (((([false, false, false, false, false, false, true, false, false, false, false, false, false, false, false, false, false, false, false, false, false, false, false, false] : List Bool).countP fun b => b == true : Nat) : Int) = 1)) = false from by decide]
    try dsimp only
    rw [if_neg (by decide)]
    try dsimp only [List.set_cons_zero, List.set_cons_succ]
    rw [u_seq]
    simp only [wMethT, u_asg, u_gN, u_ret, u_retN, u_skip, u_expr, u_ifs, u_c, u_op, u_neg, u_test, u_and, u_or, u_not, u_if, u_nil, u_cons, u_tup, u_lst, u_callP, u_call, u_b, u_chain, u_andV, u_addI, u_subI, u_mulI, u_divI, u_modI, u_powI, u_cmpI, u_eqI, u_eqS, u_eqB, u_abs, u_intI, u_intB, u_newT, u_newF, u_isN, u_notN, wVar, List.set_cons_zero, List.set_cons_succ, List.getElem?_cons_zero, List.getElem?_cons_succ, List.length_cons, List.length_nil, u_lc, u_for, u_r1, u_r2, u_r3, u_num, u_notV, u_yes, u_w0, u_w1, u_dput, u_get2, u_dget, u_prop, u_fld, u_setF, u_make, u_makeS, u_met, u_calO, u_orT, u_tupIt, u_dc, u_maxDd, u_dnew, u_tupi, ix_p0, ix_p1, wSl, woNone, woSome]
    refine ⟨⟨_, rfl⟩, [false, false, false, false, false, false, true, false, false, false, false, false, false, false, false, false, false, false, false, false, false, false, false, false], true, 6, rfl, rfl, rfl, ?_⟩
    try dsimp only [List.set_cons_zero, List.set_cons_succ]
    rw [u_seq]
    simp only [u_asg, u_gN, u_ret, u_retN, u_skip, u_expr, u_ifs, u_c, u_op, u_neg, u_test, u_and, u_or, u_not, u_if, u_nil, u_cons, u_tup, u_lst, u_callP, u_call, u_b, u_chain, u_andV, u_addI, u_subI, u_mulI, u_divI, u_modI, u_powI, u_cmpI, u_eqI, u_eqS, u_eqB, u_abs, u_intI, u_intB, u_newT, u_newF, u_isN, u_notN, wVar, List.set_cons_zero, List.set_cons_succ, List.getElem?_cons_zero, List.getElem?_cons_succ, List.length_cons, List.length_nil, u_lc, u_for, u_r1, u_r2, u_r3, u_num, u_notV, u_yes, u_w0, u_w1, u_dput, u_get2, u_dget, u_prop, u_fld, u_setF, u_make, u_makeS, u_met, u_calO, u_orT, u_tupIt, u_dc, u_maxDd, u_dnew, u_tupi, ix_p0, ix_p1, wSl, woNone, woSome]
    refine isX_go (b := true) (by simp [xtab])  (isX_go (b := false) (by simp [xtab])  (isX_go (b := false) (by simp [xtab])  ?_))
    refine ⟨sz_le (show 3 ≤ 100000 by decide), fun p1 hp1 => ?_⟩
    try dsimp only [List.set_cons_zero, List.set_cons_succ]
    rw [u_seq]
    simp only [wMethT, u_asg, u_gN, u_ret, u_retN, u_skip, u_expr, u_ifs, u_c, u_op, u_neg, u_test, u_and, u_or, u_not, u_if, u_nil, u_cons, u_tup, u_lst, u_callP, u_call, u_b, u_chain, u_andV, u_addI, u_subI, u_mulI, u_divI, u_modI, u_powI, u_cmpI, u_eqI, u_eqS, u_eqB, u_abs, u_intI, u_intB, u_newT, u_newF, u_isN, u_notN, wVar, List.set_cons_zero, List.set_cons_succ, List.getElem?_cons_zero, List.getElem?_cons_succ, List.length_cons, List.length_nil, u_lc, u_for, u_r1, u_r2, u_r3, u_num, u_notV, u_yes, u_w0, u_w1, u_dput, u_get2, u_dget, u_prop, u_fld, u_setF, u_make, u_makeS, u_met, u_calO, u_orT, u_tupIt, u_dc, u_maxDd, u_dnew, u_tupi, ix_p0, ix_p1, wSl, woNone, woSome]
    refine ⟨⟨_, lst_ref up_same⟩, isX_go (b := true) (by simp [xtab])  (isX_go (b := false) (by simp [xtab])  (isX_go (b := false) (by simp [xtab])  ?_))⟩
    refine ⟨sz_le (show 3 ≤ 100000 by decide), ?_⟩
    try simp only [u_asg, u_gN, u_ret, u_retN, u_skip, u_expr, u_ifs, u_c, u_op, u_neg, u_test, u_and, u_or, u_not, u_if, u_nil, u_cons, u_tup, u_lst, u_callP, u_call, u_b, u_chain, u_andV, u_addI, u_subI, u_mulI, u_divI, u_modI, u_powI, u_cmpI, u_eqI, u_eqS, u_eqB, u_abs, u_intI, u_intB, u_newT, u_newF, u_isN, u_notN, wVar, List.set_cons_zero, List.set_cons_succ, List.getElem?_cons_zero, List.getElem?_cons_succ, List.length_cons, List.length_nil, u_lc, u_for, u_r1, u_r2, u_r3, u_num, u_notV, u_yes, u_w0, u_w1, u_dput, u_get2, u_dget, u_prop, u_fld, u_setF, u_make, u_makeS, u_met, u_calO, u_orT, u_tupIt, u_dc, u_maxDd, u_dnew, u_tupi, ix_p0, ix_p1, wSl, woNone, woSome]
    rw [u_ixLd (show atI _ _ = some (D.bl true) from rfl)]
    refine ⟨p1, _, _, rfl, rfl, up_same, (Nat.lt_of_lt_of_le (show _ < 100000 by decide) DL.big_size), ?_⟩
    rw [up_up]
    try dsimp only [List.set_cons_zero, List.set_cons_succ]
    rw [u_seq]
    simp only [u_asg, u_gN, u_ret, u_retN, u_skip, u_expr, u_ifs, u_c, u_op, u_neg, u_test, u_and, u_or, u_not, u_if, u_nil, u_cons, u_tup, u_lst, u_callP, u_call, u_b, u_chain, u_andV, u_addI, u_subI, u_mulI, u_divI, u_modI, u_powI, u_cmpI, u_eqI, u_eqS, u_eqB, u_abs, u_intI, u_intB, u_newT, u_newF, u_isN, u_notN, wVar, List.set_cons_zero, List.set_cons_succ, List.getElem?_cons_zero, List.getElem?_cons_succ, List.length_cons, List.length_nil, u_lc, u_for, u_r1, u_r2, u_r3, u_num, u_notV, u_yes, u_w0, u_w1, u_dput, u_get2, u_dget, u_prop, u_fld, u_setF, u_make, u_makeS, u_met, u_calO, u_orT, u_tupIt, u_dc, u_maxDd, u_dnew, u_tupi, ix_p0, ix_p1, wSl, woNone, woSome]
    refine ⟨sz_le (show 11 ≤ 100000 by decide), ?_⟩
    try dsimp only [List.cons_append, List.nil_append]
    try dsimp only [List.set_cons_zero, List.set_cons_succ]
    rw [u_seq]
    simp only [u_asg, u_gN, u_ret, u_retN, u_skip, u_expr, u_ifs, u_c, u_op, u_neg, u_test, u_and, u_or, u_not, u_if, u_nil, u_cons, u_tup, u_lst, u_callP, u_call, u_b, u_chain, u_andV, u_addI, u_subI, u_mulI, u_divI, u_modI, u_powI, u_cmpI, u_eqI, u_eqS, u_eqB, u_abs, u_intI, u_intB, u_newT, u_newF, u_isN, u_notN, wVar, List.set_cons_zero, List.set_cons_succ, List.getElem?_cons_zero, List.getElem?_cons_succ, List.length_cons, List.length_nil, u_lc, u_for, u_r1, u_r2, u_r3, u_num, u_notV, u_yes, u_w0, u_w1, u_dput, u_get2, u_dget, u_prop, u_fld, u_setF, u_make, u_makeS, u_met, u_calO, u_orT, u_tupIt, u_dc, u_maxDd, u_dnew, u_tupi, ix_p0, ix_p1, wSl, woNone, woSome]
    refine ⟨sz_le (show 10 ≤ 100000 by decide), ?_⟩
    refine addL_go (by decide) ?_
    try dsimp only [List.cons_append, List.nil_append]
    try dsimp only [List.set_cons_zero, List.set_cons_succ]
    rw [u_seq]
    simp only [u_asg, u_gN, u_ret, u_retN, u_skip, u_expr, u_ifs, u_c, u_op, u_neg, u_test, u_and, u_or, u_not, u_if, u_nil, u_cons, u_tup, u_lst, u_callP, u_call, u_b, u_chain, u_andV, u_addI, u_subI, u_mulI, u_divI, u_modI, u_powI, u_cmpI, u_eqI, u_eqS, u_eqB, u_abs, u_intI, u_intB, u_newT, u_newF, u_isN, u_notN, wVar, List.set_cons_zero, List.set_cons_succ, List.getElem?_cons_zero, List.getElem?_cons_succ, List.length_cons, List.length_nil, u_lc, u_for, u_r1, u_r2, u_r3, u_num, u_notV, u_yes, u_w0, u_w1, u_dput, u_get2, u_dget, u_prop, u_fld, u_setF, u_make, u_makeS, u_met, u_calO, u_orT, u_tupIt, u_dc, u_maxDd, u_dnew, u_tupi, ix_p0, ix_p1, wSl, woNone, woSome]
    refine ⟨sz_le (show 3 ≤ 100000 by decide), ?_⟩
    refine addL_go (by decide) ?_
    try dsimp only [List.cons_append, List.nil_append]
    try simp only [u_asg, u_gN, u_ret, u_retN, u_skip, u_expr, u_ifs, u_c, u_op, u_neg, u_test, u_and, u_or, u_not, u_if, u_nil, u_cons, u_tup, u_lst, u_callP, u_call, u_b, u_chain, u_andV, u_addI, u_subI, u_mulI, u_divI, u_modI, u_powI, u_cmpI, u_eqI, u_eqS, u_eqB, u_abs, u_intI, u_intB, u_newT, u_newF, u_isN, u_notN, wVar, List.set_cons_zero, List.set_cons_succ, List.getElem?_cons_zero, List.getElem?_cons_succ, List.length_cons, List.length_nil, u_lc, u_for, u_r1, u_r2, u_r3, u_num, u_notV, u_yes, u_w0, u_w1, u_dput, u_get2, u_dget, u_prop, u_fld, u_setF, u_make, u_makeS, u_met, u_calO, u_orT, u_tupIt, u_dc, u_maxDd, u_dnew, u_tupi, ix_p0, ix_p1, wSl, woNone, woSome]
    rw [if_neg (by decide)]
    refine ⟨sz_le (show 4 ≤ 100000 by decide), ?_⟩
    refine same_ref (xs := ([true, false, false, true] : List Bool).map .bl) up_same (fl_bls _) (by decide) ?_
    try simp only [if_true]
    rw [u_ixLd (show atI _ _ = some (D.str "row") from rfl)]
    exact fin_sub (sub_up hp1) q
end K25
namespace K25
open PySem PySem.Spec L2 C8 DL PK PL PQ PN PB F4 PR
open K26 (isX_go addL_go same_ref fl_bls in_str)
theorem p__law_more_field (z : Ad) : ∀ ds h Q X, S__law_more_field z ds h Q X → w__law_more_field z (endsD Q X) (startD 2 ds) h := fun _ _ _ _ q => q.2.elim
theorem p__law_field (z : Ad) : ∀ ds h Q X, S__law_field z ds h Q X → w__law_field z (endsD Q X) (startD 2 ds) h := by
  rintro ds h Q X ⟨C, fs, w, v, rfl, hw, q⟩
  show w__law_field z (endsD Q X) [some (.str w), some (.xob C fs)] h
  unfold w__law_field
  cases hw with
  | row v =>
    rw [u_seq]
    simp only [u_asg, u_gN, u_ret, u_retN, u_skip, u_expr, u_ifs, u_c, u_op, u_neg, u_test, u_and, u_or, u_not, u_if, u_nil, u_cons, u_tup, u_lst, u_callP, u_call, u_b, u_chain, u_andV, u_addI, u_subI, u_mulI, u_divI, u_modI, u_powI, u_cmpI, u_eqI, u_eqS, u_eqB, u_abs, u_intI, u_intB, u_newT, u_newF, u_isN, u_notN, wVar, List.set_cons_zero, List.set_cons_succ, List.getElem?_cons_zero, List.getElem?_cons_succ, List.length_cons, List.length_nil, u_lc, u_for, u_r1, u_r2, u_r3, u_num, u_notV, u_yes, u_w0, u_w1, u_dput, u_get2, u_dget, u_prop, u_fld, u_setF, u_make, u_makeS, u_met, u_calO, u_orT, u_tupIt, u_dc, u_maxDd, u_dnew, u_tupi, ix_p0, ix_p1, wSl, woNone, woSome]
    refine ⟨sz_le (show 5 ≤ 100000 by decide), in_str (b := false) (by decide +kernel) (by decide +kernel) ?_⟩
    dsimp only
    rw [if_neg (by decide), u_seq]
    simp only [u_asg, u_gN, u_ret, u_retN, u_skip, u_expr, u_ifs, u_c, u_op, u_neg, u_test, u_and, u_or, u_not, u_if, u_nil, u_cons, u_tup, u_lst, u_callP, u_call, u_b, u_chain, u_andV, u_addI, u_subI, u_mulI, u_divI, u_modI, u_powI, u_cmpI, u_eqI, u_eqS, u_eqB, u_abs, u_intI, u_intB, u_newT, u_newF, u_isN, u_notN, wVar, List.set_cons_zero, List.set_cons_succ, List.getElem?_cons_zero, List.getElem?_cons_succ, List.length_cons, List.length_nil, u_lc, u_for, u_r1, u_r2, u_r3, u_num, u_notV, u_yes, u_w0, u_w1, u_dput, u_get2, u_dget, u_prop, u_fld, u_setF, u_make, u_makeS, u_met, u_calO, u_orT, u_tupIt, u_dc, u_maxDd, u_dnew, u_tupi, ix_p0, ix_p1, wSl, woNone, woSome]
    refine ⟨sz_le (show 2 ≤ 100000 by decide), in_str (b := false) (by decide +kernel) (by decide +kernel) ?_⟩
    dsimp only
    rw [if_neg (by decide), u_seq]
    simp only [u_asg, u_gN, u_ret, u_retN, u_skip, u_expr, u_ifs, u_c, u_op, u_neg, u_test, u_and, u_or, u_not, u_if, u_nil, u_cons, u_tup, u_lst, u_callP, u_call, u_b, u_chain, u_andV, u_addI, u_subI, u_mulI, u_divI, u_modI, u_powI, u_cmpI, u_eqI, u_eqS, u_eqB, u_abs, u_intI, u_intB, u_newT, u_newF, u_isN, u_notN, wVar, List.set_cons_zero, List.set_cons_succ, List.getElem?_cons_zero, List.getElem?_cons_succ, List.length_cons, List.length_nil, u_lc, u_for, u_r1, u_r2, u_r3, u_num, u_notV, u_yes, u_w0, u_w1, u_dput, u_get2, u_dget, u_prop, u_fld, u_setF, u_make, u_makeS, u_met, u_calO, u_orT, u_tupIt, u_dc, u_maxDd, u_dnew, u_tupi, ix_p0, ix_p1, wSl, woNone, woSome]
    refine ⟨sz_le (show 2 ≤ 100000 by decide), in_str (b := true) (by decide +kernel) (by decide +kernel) ?_⟩
    dsimp only
    rw [if_pos rfl]
    simp only [wXFld, u_asg, u_gN, u_ret, u_retN, u_skip, u_expr, u_ifs, u_c, u_op, u_neg, u_test, u_and, u_or, u_not, u_if, u_nil, u_cons, u_tup, u_lst, u_callP, u_call, u_b, u_chain, u_andV, u_addI, u_subI, u_mulI, u_divI, u_modI, u_powI, u_cmpI, u_eqI, u_eqS, u_eqB, u_abs, u_intI, u_intB, u_newT, u_newF, u_isN, u_notN, wVar, List.set_cons_zero, List.set_cons_succ, List.getElem?_cons_zero, List.getElem?_cons_succ, List.length_cons, List.length_nil, u_lc, u_for, u_r1, u_r2, u_r3, u_num, u_notV, u_yes, u_w0, u_w1, u_dput, u_get2, u_dget, u_prop, u_fld, u_setF, u_make, u_makeS, u_met, u_calO, u_orT, u_tupIt, u_dc, u_maxDd, u_dnew, u_tupi, ix_p0, ix_p1, wSl, woNone, woSome]
    exact ⟨_, _, _, rfl, by simp, rfl, sz_le (show 1 ≤ 100000 by decide), fin_of q⟩
theorem p__law_heard (z : Ad) : ∀ d tl, MoK tl → ∀ h Q X, S__law_heard z tl h Q X → w__law_heard z d tl (endsD Q X) (startD 4 [d]) h := by
  intro d tl mt h Q X q
  show w__law_heard z d tl (endsD Q X) [some d, none, none, none] h
  unfold w__law_heard
  rw [u_seq, u_asg, u_c, u_gN]
  dsimp only [List.set_cons_zero, List.set_cons_succ]
  rw [u_seq, u_try]
  refine ⟨rfl, mt _ _ _ _ _ (fun d h' q => ?_) (fun x h' q => ?_) q⟩
  · show 1 ≤ sizeLine ∧ _
    exact ⟨sz_le (by decide), fin_of q⟩
  · obtain ⟨C, fs, w, v, rfl, hw, q⟩ := q
    refine ⟨by cases hw <;> simp [errs], ?_⟩
    dsimp only [List.replicate, List.set_cons_succ, List.set_cons_zero]
    rw [u_seq, u_asg]
    simp only [u_callP, u_cons, u_nil]
    rw [u_var rfl]
    refine ⟨rfl, C, fs, w, v, rfl, hw, ?_⟩
    try dsimp only
    rw [u_gN]
    dsimp only [List.set_cons_succ, List.set_cons_zero]
    rw [u_ret, u_b]
    simp only [u_cons, u_nil, u_op, u_lst]
    rw [u_var rfl]
    try dsimp only
    refine ⟨sz_le (show 1 ≤ 100000 by decide), ?_⟩
    rw [u_newF, u_callP]
    simp only [u_cons, u_nil]
    rw [u_var rfl]
    try dsimp only
    rw [u_var rfl]
    refine ⟨rfl, C, fs, w, v, rfl, hw, ?_⟩
    refine addL_go (show 2 ≤ 100000 by decide) ?_
    simp only [List.cons_append, List.nil_append]
    exact ⟨_, _, rfl, rfl, fin_of q⟩
end K25
namespace K25
open PySem PySem.Spec L2 C8 DL PK PL PQ PN PB F4 PR
theorem go_if {c : Prop} [Decidable c] {a b : Prop} (h : c) (q : a) : if c then a else b := by rw [if_pos h]; exact q
theorem go_yes {c : Bool} {a b : Prop} (h : c = true) (q : a) : if c = true then a else b := by rw [if_pos h]; exact q
theorem go_no {c : Bool} {a b : Prop} (h : c = false) (q : b) : if c = true then a else b := by rw [if_neg (by rw [h]; decide)]; exact q
theorem sz_t {n : Nat} (h : n ≤ 10000) : n ≤ sizeLine := Nat.le_trans h (by decide)
theorem ix_t (i : Nat) {n : Int} (hn : n = (i : Int)) {xs : List D} {x : D} {h : AH} {Q : KD} (e : xs[i]? = some x) (q : Q x h) : dIx (.tup xs) (.int n) h Q := by
  subst hn
  obtain ⟨l, _⟩ := List.getElem?_eq_some_iff.mp e
  rw [u_ixTd (by rw [DL.atI_nat l]; exact e)]
  exact q
theorem p_is_row (z : Ad) : ∀ ds h Q X, S_is_row z ds h Q X → w_is_row z (endsD Q X) (startD 1 ds) h := by
  rintro ds h Q X ⟨x, b, rfl, o, q⟩
  have q := fin_of q
  show w_is_row z (endsD Q X) [some x] h
  unfold w_is_row
  -- not a tuple
  have nt : ∀ t, tyD h x = some t → L2.kitB t "tuple" = some false → b = false → w_is_row z (endsD Q X) [some x] h := fun t e1 e2 e3 => by
    subst e3
    unfold w_is_row
    ((try dsimp only); rw [u_seq]; (try simp only [u_asg, u_gN, u_ret, u_retN, u_skip, u_expr, u_ifs, u_c, u_op, u_neg, u_test, u_and, u_or, u_not, u_if, u_nil, u_cons, u_tup, u_lst, u_callP, u_call, u_b, u_chain, u_andV, u_addI, u_subI, u_mulI, u_divI, u_modI, u_powI, u_cmpI, u_eqI, u_eqS, u_eqB, u_abs, u_intI, u_intB, u_newT, u_newF, u_isN, u_notN, wVar, List.set_cons_zero, List.set_cons_succ, List.getElem?_cons_zero, List.getElem?_cons_succ, List.length_cons, List.length_nil, u_lc, u_for, u_r1, u_r2, u_r3, u_num, u_notV, u_yes, u_w0, u_w1, u_dput, u_get2, u_dget, u_prop, u_fld, u_setF, u_make, u_makeS, u_met, u_calO, u_orT, u_tupIt, u_dc, u_maxDd, u_dnew, u_tupi, ix_p0, ix_p1, wSl, woNone, woSome]))
    exact ⟨x, t, "tuple", false, rfl, e1, e2, go_yes rfl (go_if trivial q)⟩
  have tp : ∀ xs, x = .tup xs → xs.length ≠ 2 → b = false → w_is_row z (endsD Q X) [some x] h := fun xs e1 e2 e3 => by
    subst e1 e3
    unfold w_is_row
    ((try dsimp only); rw [u_seq]; (try simp only [u_asg, u_gN, u_ret, u_retN, u_skip, u_expr, u_ifs, u_c, u_op, u_neg, u_test, u_and, u_or, u_not, u_if, u_nil, u_cons, u_tup, u_lst, u_callP, u_call, u_b, u_chain, u_andV, u_addI, u_subI, u_mulI, u_divI, u_modI, u_powI, u_cmpI, u_eqI, u_eqS, u_eqB, u_abs, u_intI, u_intB, u_newT, u_newF, u_isN, u_notN, wVar, List.set_cons_zero, List.set_cons_succ, List.getElem?_cons_zero, List.getElem?_cons_succ, List.length_cons, List.length_nil, u_lc, u_for, u_r1, u_r2, u_r3, u_num, u_notV, u_yes, u_w0, u_w1, u_dput, u_get2, u_dget, u_prop, u_fld, u_setF, u_make, u_makeS, u_met, u_calO, u_orT, u_tupIt, u_dc, u_maxDd, u_dnew, u_tupi, ix_p0, ix_p1, wSl, woNone, woSome]))
    refine ⟨_, "tuple", "tuple", true, rfl, rfl, rfl, go_no rfl ?_⟩
    rw [u_lenT]
    rw [u_eqI]
    exact go_yes (by rw [decide_eq_false (by omega)]; rfl) q
  have t2 : ∀ u v t1 t2, x = .tup [u, v] → tyD h u = some t1 → tyD h v = some t2 → b = (btw u 0 1000000 && decide (t2 = "int")) → w_is_row z (endsD Q X) [some x] h := fun u v t1 t2 e1 e2 e3 e4 => by
    subst e1
    unfold w_is_row
    ((try dsimp only); rw [u_seq]; (try simp only [u_asg, u_gN, u_ret, u_retN, u_skip, u_expr, u_ifs, u_c, u_op, u_neg, u_test, u_and, u_or, u_not, u_if, u_nil, u_cons, u_tup, u_lst, u_callP, u_call, u_b, u_chain, u_andV, u_addI, u_subI, u_mulI, u_divI, u_modI, u_powI, u_cmpI, u_eqI, u_eqS, u_eqB, u_abs, u_intI, u_intB, u_newT, u_newF, u_isN, u_notN, wVar, List.set_cons_zero, List.set_cons_succ, List.getElem?_cons_zero, List.getElem?_cons_succ, List.length_cons, List.length_nil, u_lc, u_for, u_r1, u_r2, u_r3, u_num, u_notV, u_yes, u_w0, u_w1, u_dput, u_get2, u_dget, u_prop, u_fld, u_setF, u_make, u_makeS, u_met, u_calO, u_orT, u_tupIt, u_dc, u_maxDd, u_dnew, u_tupi, ix_p0, ix_p1, wSl, woNone, woSome]))
    refine ⟨_, "tuple", "tuple", true, rfl, rfl, rfl, go_no rfl ?_⟩
    rw [u_lenT]
    rw [u_eqI]
    refine go_no rfl ?_
    try simp only [u_asg, u_gN, u_ret, u_retN, u_skip, u_expr, u_ifs, u_c, u_op, u_neg, u_test, u_and, u_or, u_not, u_if, u_nil, u_cons, u_tup, u_lst, u_callP, u_call, u_b, u_chain, u_andV, u_addI, u_subI, u_mulI, u_divI, u_modI, u_powI, u_cmpI, u_eqI, u_eqS, u_eqB, u_abs, u_intI, u_intB, u_newT, u_newF, u_isN, u_notN, wVar, List.set_cons_zero, List.set_cons_succ, List.getElem?_cons_zero, List.getElem?_cons_succ, List.length_cons, List.length_nil, u_lc, u_for, u_r1, u_r2, u_r3, u_num, u_notV, u_yes, u_w0, u_w1, u_dput, u_get2, u_dget, u_prop, u_fld, u_setF, u_make, u_makeS, u_met, u_calO, u_orT, u_tupIt, u_dc, u_maxDd, u_dnew, u_tupi, ix_p0, ix_p1, wSl, woNone, woSome]
    refine ix_t 0 rfl rfl ⟨trivial, u, t1, _, _, rfl, e2, ?_⟩
    cases c : btw u 0 1000000 with
    | true =>
      refine go_yes rfl (ix_t 1 rfl rfl ⟨trivial, v, t2, rfl, e3, ?_⟩)
      rw [e4, c] at q
      exact q
    | false =>
      refine go_no rfl ?_
      rw [e4, c] at q
      exact q
  rcases o with ⟨rfl, e, rfl, h0, h1⟩ | ⟨rfl, ho⟩
  · exact t2 (.int e.1) (.int e.2) "int" "int" rfl rfl rfl (by unfold btw; simp [h0, h1])
  · have ho : x = .non ∨ x = .int 5 ∨ x = .tup [] ∨ x = .tup [.int 1] ∨ x = .tup [.int 1, .int 2, .int 3] ∨ x = .lst [.int 1, .int 2] ∨ x = .tup [.bl true, .int 2] ∨ x = .tup [.int 1, .bl false] ∨ x = .tup [.int (-1), .int 2] ∨ x = .tup [.int 1000001, .int 2] ∨ x = .tup [.str "1", .int 2] ∨ x = .tup [.int 1, .str "2"] ∨ x = .tup [.int 1, .non] ∨ x = .tup [.tup [.int 1, .int 2]] ∨ x = .dK [] ∨ x = .tup [.lst [.int 1], .int 2] ∨ x = .str "12" := by simpa [oddR] using ho
    rcases ho with e | e | e | e | e | e | e | e | e | e | e | e | e | e | e | e | e
    · exact nt "NoneType" (by rw [e]; rfl) rfl rfl
    · exact nt "int" (by rw [e]; rfl) rfl rfl
    · exact tp _ e (by decide) rfl
    · exact tp _ e (by simp) rfl
    · exact tp _ e (by simp) rfl
    · exact nt "list" (by rw [e]; rfl) rfl rfl
    · exact t2 _ _ "bool" "int" e rfl rfl rfl
    · exact t2 _ _ "int" "bool" e rfl rfl rfl
    · exact t2 _ _ "int" "int" e rfl rfl rfl
    · exact t2 _ _ "int" "int" e rfl rfl rfl
    · exact t2 _ _ "str" "int" e rfl rfl rfl
    · exact t2 _ _ "int" "str" e rfl rfl rfl
    · exact t2 _ _ "int" "NoneType" e rfl rfl rfl
    · exact tp _ e (by simp) rfl
    · exact nt "dict" (by rw [e]; rfl) rfl rfl
    · exact t2 _ _ "list" "int" e rfl rfl rfl
    · exact nt "str" (by rw [e]; rfl) rfl rfl
end K25
namespace K25
open PySem PySem.Spec L2 C8 DL PK PL PQ PN PB F4 PR
theorem p_Ledger___init__ (z : Ad) : ∀ ds h Q X, S_Ledger___init__ z ds h Q X → w_Ledger___init__ z (endsD Q X) (startD 6 ds) h := by
  rintro ds h Q X ⟨a, rows, tail, rfl, ha, hr, hl, mk⟩
  show w_Ledger___init__ z (endsD Q X) [some (.ref a), some (.tup (rows.map pairD ++ tail)), none, none, none, none] h
  have big := DL.big_size
  have bad : ∀ x t, tail = x :: t → x ∈ oddR ∧ ∀ h', Sub h h' → X (badRow z rows.length) h' := fun x t e => by
    rcases mk with ⟨e2, _⟩ | ⟨x2, t2, e2, o, k⟩
    · rw [e] at e2; cases e2
    · rw [e] at e2; cases e2; exact ⟨o, k⟩
  unfold w_Ledger___init__
  rw [u_seq]
  simp only [u_asg, u_gN, u_ret, u_retN, u_skip, u_expr, u_ifs, u_c, u_op, u_neg, u_test, u_and, u_or, u_not, u_if, u_nil, u_cons, u_tup, u_lst, u_callP, u_call, u_b, u_chain, u_andV, u_addI, u_subI, u_mulI, u_divI, u_modI, u_powI, u_cmpI, u_eqI, u_eqS, u_eqB, u_abs, u_intI, u_intB, u_newT, u_newF, u_isN, u_notN, wVar, List.set_cons_zero, List.set_cons_succ, List.getElem?_cons_zero, List.getElem?_cons_succ, List.length_cons, List.length_nil, u_lc, u_for, u_r1, u_r2, u_r3, u_num, u_notV, u_yes, u_w0, u_w1, u_dnew]
  intro p hp
  have pa : a ≠ p := by rintro rfl; rw [ha] at hp; cases hp
  rw [u_seq]
  simp only [u_asg, u_gN, u_ret, u_retN, u_skip, u_expr, u_ifs, u_c, u_op, u_neg, u_test, u_and, u_or, u_not, u_if, u_nil, u_cons, u_tup, u_lst, u_callP, u_call, u_b, u_chain, u_andV, u_addI, u_subI, u_mulI, u_divI, u_modI, u_powI, u_cmpI, u_eqI, u_eqS, u_eqB, u_abs, u_intI, u_intB, u_newT, u_newF, u_isN, u_notN, wVar, List.set_cons_zero, List.set_cons_succ, List.getElem?_cons_zero, List.getElem?_cons_succ, List.length_cons, List.length_nil, u_lc, u_for, u_r1, u_r2, u_r3, u_num, u_notV, u_yes, u_w0, u_w1]
  refine loop_go (fun i ρ h' => i ≤ rows.length ∧ ∃ (es : Prs) (b c : Option D), ρ = [some (.ref a), some (.tup (rows.map pairD ++ tail)), some (.ref p), b, c, none] ∧ h' = up h p (.dK (toK es)) ∧ (es.map (·.1)).Nodup ∧ (∀ k, getI es k = amt (rows.take i) k) ∧ es.length ≤ i) ⟨Nat.zero_le _, [], _, _, rfl, rfl, List.nodup_nil, fun k => rfl, Nat.le_refl _⟩ (fun _ _ _ _ => trivial) ?_ ?_
  · rintro i x _ _ K hi ⟨li, es, b, c, rfl, rfl, nd, hg, le⟩ k
    obtain ⟨y, hy, rfl⟩ := numD_get hi
    refine ⟨_, rfl, rfl, _, _, rfl, _, _, rfl, rfl, ?_⟩
    dsimp only [List.set_cons_zero, List.set_cons_succ]
    rw [u_seq]
    simp only [u_asg, u_gN, u_ret, u_retN, u_skip, u_expr, u_ifs, u_c, u_op, u_neg, u_test, u_and, u_or, u_not, u_if, u_nil, u_cons, u_tup, u_lst, u_callP, u_call, u_b, u_chain, u_andV, u_addI, u_subI, u_mulI, u_divI, u_modI, u_powI, u_cmpI, u_eqI, u_eqS, u_eqB, u_abs, u_intI, u_intB, u_newT, u_newF, u_isN, u_notN, wVar, List.set_cons_zero, List.set_cons_succ, List.getElem?_cons_zero, List.getElem?_cons_succ, List.length_cons, List.length_nil, u_lc, u_for, u_r1, u_r2, u_r3, u_num, u_notV, u_yes, u_w0, u_w1]
    by_cases lt : i < rows.length
    · rw [List.getElem?_append_left (by rw [List.length_map]; exact lt)] at hy
      obtain ⟨r, hr1, rfl, _⟩ := get_pairs hy
      have rr := hr r (List.mem_of_getElem? hr1)
      refine ⟨trivial, pairD r, true, rfl, .inl ⟨rfl, r, rfl, rr⟩, go_no rfl ?_⟩
      simp only [u_dput, u_get2, u_asg, u_gN, u_ret, u_retN, u_skip, u_expr, u_ifs, u_c, u_op, u_neg, u_test, u_and, u_or, u_not, u_if, u_nil, u_cons, u_tup, u_lst, u_callP, u_call, u_b, u_chain, u_andV, u_addI, u_subI, u_mulI, u_divI, u_modI, u_powI, u_cmpI, u_eqI, u_eqS, u_eqB, u_abs, u_intI, u_intB, u_newT, u_newF, u_isN, u_notN, wVar, List.set_cons_zero, List.set_cons_succ, List.getElem?_cons_zero, List.getElem?_cons_succ, List.length_cons, List.length_nil, u_lc, u_for, u_r1, u_r2, u_r3, u_num, u_notV, u_yes, u_w0, u_w1, ix_p0, ix_p1]
      refine ⟨by simp [dkOf], toK es, _, by simp [dkOf], rfl, ?_⟩
      rw [val_getD, u_addI]
      refine ⟨p, toK es, _, rfl, up_same, rfl, by rw [toK_len]; omega, ?_⟩
      rw [up_up, putD_toK]
      refine k _ _ ⟨by omega, _, _, _, rfl, rfl, nodup_put nd, fun j => ?_, Nat.le_trans len_put (by omega)⟩
      rw [getI_put, amt_take hr1]
      by_cases e : j = r.1
      · subst e; rw [if_pos rfl, if_pos rfl, hg]
      · rw [if_neg e, if_neg (fun z => e z.symm), hg, Int.add_zero]
    · obtain rfl : i = rows.length := by omega
      rw [List.getElem?_append_right (by rw [List.length_map]; exact Nat.le_refl _), List.length_map, Nat.sub_self] at hy
      obtain ⟨t, et⟩ : ∃ t, tail = y :: t := by
        cases tail with
        | nil => cases hy
        | cons x t => exact ⟨t, by rw [show x = y from Option.some.inj hy]⟩
      obtain ⟨o, kb⟩ := bad y t et
      refine ⟨trivial, y, false, rfl, .inr ⟨rfl, o⟩, go_yes rfl ?_⟩
      rw [u_raise]
      simp only [u_asg, u_gN, u_ret, u_retN, u_skip, u_expr, u_ifs, u_c, u_op, u_neg, u_test, u_and, u_or, u_not, u_if, u_nil, u_cons, u_tup, u_lst, u_callP, u_call, u_b, u_chain, u_andV, u_addI, u_subI, u_mulI, u_divI, u_modI, u_powI, u_cmpI, u_eqI, u_eqS, u_eqB, u_abs, u_intI, u_intB, u_newT, u_newF, u_isN, u_notN, wVar, List.set_cons_zero, List.set_cons_succ, List.getElem?_cons_zero, List.getElem?_cons_succ, List.length_cons, List.length_nil, u_lc, u_for, u_r1, u_r2, u_r3, u_num, u_notV, u_yes, u_w0, u_w1]
      exact ⟨trivial, kb _ (sub_up hp)⟩
  · rintro _ _ ⟨li, es, b, c, rfl, rfl, nd, hg, le⟩
    rw [numD_len, List.length_append, List.length_map] at li hg le
    obtain rfl : tail = [] := List.eq_nil_of_length_eq_zero (by omega)
    have q : ∀ es, Led es (amt rows) → es.length ≤ rows.length → Q .non (up h a (.ins z.Ledger [("amounts", .dK (toK es))])) := by
      rcases mk with ⟨_, q⟩ | ⟨_, _, e, _⟩
      · exact q
      · cases e
    rw [List.length_nil, Nat.add_zero] at hg le
    rw [List.take_length] at hg
    simp only [u_setF, u_dc, u_seqi, u_asg, u_gN, u_ret, u_retN, u_skip, u_expr, u_ifs, u_c, u_op, u_neg, u_test, u_and, u_or, u_not, u_if, u_nil, u_cons, u_tup, u_lst, u_callP, u_call, u_b, u_chain, u_andV, u_addI, u_subI, u_mulI, u_divI, u_modI, u_powI, u_cmpI, u_eqI, u_eqS, u_eqB, u_abs, u_intI, u_intB, u_newT, u_newF, u_isN, u_notN, wVar, List.set_cons_zero, List.set_cons_succ, List.getElem?_cons_zero, List.getElem?_cons_succ, List.length_cons, List.length_nil, u_lc, u_for, u_r1, u_r2, u_r3, u_num, u_notV, u_yes, u_w0, u_w1]
    refine ⟨.ref p, toK es, es.map (·.1), rfl, by simp [dkOf], toK_keys es, fun ys hp1 hp2 => ?_⟩
    rw [u_newF]
    intro p2 hp2'
    have ndy : ys.Nodup := hp1.nodup_iff.mpr nd
    have ly : ys.length = es.length := by rw [hp1.length_eq, List.length_map]
    have p2p : p2 ≠ p := by rintro rfl; simp at hp2'
    have hp2h : h p2 = none := by rw [up_ne p2p] at hp2'; exact hp2'
    refine dc_pure (pick0 (getI es)) (fun _ => trivial) (by rw [List.length_map]; omega) ?_ ?_
    · intro x acc K hx la k
      obtain ⟨y, hy, rfl⟩ := List.mem_map.mp hx
      have my : y ∈ es.map (·.1) := hp1.mem_iff.mp hy
      rw [u_gN]
      simp only [u_asg, u_gN, u_ret, u_retN, u_skip, u_expr, u_ifs, u_c, u_op, u_neg, u_test, u_and, u_or, u_not, u_if, u_nil, u_cons, u_tup, u_lst, u_callP, u_call, u_b, u_chain, u_andV, u_addI, u_subI, u_mulI, u_divI, u_modI, u_powI, u_cmpI, u_eqI, u_eqS, u_eqB, u_abs, u_intI, u_intB, u_newT, u_newF, u_isN, u_notN, wVar, List.set_cons_zero, List.set_cons_succ, List.getElem?_cons_zero, List.getElem?_cons_succ, List.length_cons, List.length_nil, u_lc, u_for, u_r1, u_r2, u_r3, u_num, u_notV, u_yes, u_w0, u_w1, u_dget]
      have gp : (up (up h p (.dK (toK es))) p2 (.dK acc)) p = some (.dK (toK es)) := by rw [up_ne p2p.symm]; exact up_same
      refine ⟨toK es, _, _, dk_ref gp, rfl, val_some my, ?_⟩
      rw [u_eqI]
      by_cases z : getI es y = 0
      · rw [decide_eq_true z]
        simp only [Bool.not_true, Bool.false_eq_true, if_false]
        have : dstep (pick0 (getI es)) acc (.int y) = acc := by unfold dstep pick0; simp only [z, ne_eq, not_true, if_false]
        rw [this] at k; exact k
      · rw [decide_eq_false z]
        simp only [Bool.not_false, if_true]
        refine ⟨toK es, _, _, dk_ref gp, rfl, val_some my, acc, _, rfl, up_same, la, ?_⟩
        rw [up_up]
        have : dstep (pick0 (getI es)) acc (.int y) = putD acc (Sum.inl y) (.int (getI es y)) := by unfold dstep pick0; simp only [ne_eq, z, not_false_eq_true, if_true]
        rw [this] at k; exact k
    · have e := fold_keyed (getI es) ys [] ndy (fun _ _ => rfl)
      have e : (ys.map D.int).foldl (dstep (pick0 (getI es))) [] = toK (keyed (getI es) ys) := e
      rw [e]
      refine endKF hp2' ?_
      refine ⟨a, [], rfl, by rw [up_ne pa]; exact ha, by decide, ?_⟩
      have led : Led (keyed (getI es) ys) (amt rows) := by
        have := keyed_led (A := getI es) hp2 ndy fun k hk => hp1.mem_iff.mpr (by
          cases c : hasI es k with
          | true => exact hasI_keys.mp c
          | false => exact absurd (getI_no c) hk)
        exact this.of_amt hg
      refine fin_sub (g := up h a (.ins z.Ledger [("amounts", .dK (toK (keyed (getI es) ys)))])) (fun b o z => ?_) (q _ led (by have := keyed_len (A := getI es) (ys := ys); omega))
      by_cases c : b = a
      · subst c; rw [up_same] at z ⊢; exact z
      · rw [up_ne c] at z ⊢
        rw [up_ne (by rintro rfl; rw [hp] at z; cases z)]; exact z
end K25
namespace PN
open PySem PySem.Spec L2 C8 DL PK PL PQ
/-! equal ledgers, seen by a look at each key -/
theorem val_none {es : Prs} {k : Int} (h : ¬k ∈ es.map (·.1)) : valD (toK es) (Sum.inl k) = none := by
  rw [valD_toK, List.find?_eq_none.mpr, Option.map_none]
  intro e he z
  exact h (List.mem_map.mpr ⟨e, he, of_decide_eq_true z⟩)
theorem hit_toK {fs : Prs} : ∀ gs : Prs, ∃ r, HitD (toK fs) (toK gs) r ∧ (r = true ↔ ∀ e ∈ gs, e.1 ∈ fs.map (·.1) ∧ getI fs e.1 = e.2)
  | [] => ⟨true, .nil, by simp⟩
  | e :: gs => by
    obtain ⟨r, h1, h2⟩ := hit_toK gs
    by_cases c : e.1 ∈ fs.map (·.1)
    · refine ⟨_, .hit (val_some c) h1, ?_⟩
      rw [Bool.and_eq_true, decide_eq_true_iff, h2]
      constructor
      · rintro ⟨a, b⟩ x hx
        rcases List.mem_cons.mp hx with rfl | hx
        · exact ⟨c, a.symm⟩
        · exact b x hx
      · intro a
        exact ⟨(a e (List.mem_cons_self ..)).2.symm, fun x hx => a x (List.mem_cons_of_mem _ hx)⟩
    · refine ⟨false, .miss (val_none c), ?_⟩
      constructor
      · intro z; cases z
      · intro a; exact absurd (a e (List.mem_cons_self ..)).1 c
theorem sub_std : ∀ {fs gs : Prs}, gs.Pairwise (fun x y => x.1 < y.1) → fs.Pairwise (fun x y => x.1 < y.1) → (∀ e ∈ gs, e ∈ fs) → gs.Sublist fs
  | _, [], _, _, _ => List.nil_sublist _
  | [], g :: gs, _, _, h => by cases h g (List.mem_cons_self ..)
  | f :: fs, g :: gs, pg, pf, h => by
    rw [List.pairwise_cons] at pg pf
    by_cases c : g = f
    · subst c
      refine .cons_cons _ (sub_std pg.2 pf.2 fun e he => ?_)
      rcases List.mem_cons.mp (h e (List.mem_cons_of_mem _ he)) with rfl | z
      · exact absurd (pg.1 e he) (Int.lt_irrefl _)
      · exact z
    · have gf : g ∈ fs := by
        rcases List.mem_cons.mp (h g (List.mem_cons_self ..)) with z | z
        · exact absurd z c
        · exact z
      have l := pf.1 g gf
      refine .cons _ (sub_std (List.pairwise_cons.mpr pg) pf.2 fun e he => ?_)
      rcases List.mem_cons.mp (h e he) with rfl | z
      · rcases List.mem_cons.mp he with rfl | he
        · exact absurd rfl c
        · have := pg.1 e he; omega
      · exact z
theorem hit_same {gs1 gs2 : Prs} (s1 : Std gs1) (s2 : Std gs2) : ∃ r, HitD (toK gs2) (toK gs1) r ∧ ((toK gs1).length == (toK gs2).length && r) = decide (gs1 = gs2) := by
  obtain ⟨r, h1, h2⟩ := hit_toK (fs := gs2) gs1
  refine ⟨r, h1, ?_⟩
  rw [toK_len, toK_len]
  rw [Bool.eq_iff_iff, Bool.and_eq_true, beq_iff_eq, h2, decide_eq_true_iff]
  constructor
  · rintro ⟨l, m⟩
    refine (sub_std s1.1 s2.1 fun e he => ?_).eq_of_length l
    obtain ⟨m1, m2⟩ := m e he
    obtain ⟨y, hy, hy2⟩ := List.mem_map.mp m1
    have : getI gs2 y.1 = y.2 := getI_mem (pw_nodup s2.1) hy
    rw [hy2, m2] at this
    have : e = y := Prod.ext hy2.symm this
    rw [this]; exact hy
  · rintro rfl
    exact ⟨rfl, fun e he => ⟨List.mem_map.mpr ⟨e, he, rfl⟩, getI_mem (pw_nodup s2.1) he⟩⟩
theorem p_Ledger___eq__ (z : Ad) : ∀ ds h Q X, S_Ledger___eq__ z ds h Q X → w_Ledger___eq__ z (endsD Q X) (startD 2 ds) h := by
  rintro ds h Q X ⟨es, fs, rfl, s1, s2, q⟩
  show w_Ledger___eq__ z (endsD Q X) [some (ledD z.Ledger es), some (ledD z.Ledger fs)] h
  unfold w_Ledger___eq__
  simp only [u_fld, u_asg, u_gN, u_ret, u_retN, u_skip, u_expr, u_ifs, u_c, u_op, u_neg, u_test, u_and, u_or, u_not, u_if, u_nil, u_cons, u_tup, u_lst, u_callP, u_call, u_b, u_chain, u_andV, u_addI, u_subI, u_mulI, u_divI, u_modI, u_powI, u_cmpI, u_eqI, u_eqS, u_eqB, u_abs, u_intI, u_intB, u_newT, u_newF, u_isN, u_notN, wVar, List.set_cons_zero, List.set_cons_succ, List.getElem?_cons_zero, List.getElem?_cons_succ, List.length_cons, List.length_nil, u_lc, u_for, u_r1, u_r2, u_r3, u_num, u_notV, u_yes, u_w0, u_w1, u_dput, u_get2, u_dget, u_prop, u_fld, u_setF, u_make, u_makeS, u_met, u_calO, u_orT, u_tupIt, u_dc, u_maxDd, u_dnew, u_tupi, ix_p0, ix_p1, wSl, woNone, woSome]
  obtain ⟨r, h1, h2⟩ := hit_same s1 s2
  refine ⟨_, rfl, ledD_isI, ?_⟩
  dsimp only
  rw [if_pos rfl]
  refine ⟨_, _, rfl, rfl, _, _, rfl, rfl, toK es, toK fs, r, rfl, rfl, h1, ?_⟩
  rw [h2]
  exact fin_of q
end PN
namespace K25
open PySem PySem.Spec L2 C8 DL PK PL PQ PN PB F4 PR
theorem has_toK {es : Prs} {k : Int} : (valD (toK es) (Sum.inl k)).isSome = hasI es k := by
  cases c : hasI es k with
  | true => rw [val_some (hasI_keys.mp c)]; rfl
  | false =>
    rw [PN.val_none (fun m => by rw [hasI_keys.mpr m] at c; cases c)]; rfl
theorem ty_ins {h : AH} {x : D} {n : String} (e : tyD h x = some n) : insOf h x = none := by
  unfold tyD at e
  cases x with
  | ref a =>
    unfold cur at e
    unfold insOf
    dsimp only at e ⊢
    cases g : h a with
    | none => rfl
    | some o => cases o <;> rw [g] at e <;> first | rfl | cases e
  | ob C fs => cases e
  | _ => rfl
theorem ty_led {z : Ad} {h : AH} {x : D} {n : String} (e : tyD h x = some n) : (D.ty n, z.Ledger, false) ∈ ii_Ledger z := by
  have := tyD_in e
  unfold ii_Ledger tys
  rcases this with rfl | rfl | rfl | rfl | rfl | rfl | rfl <;> simp
theorem p_Ledger___getitem__ (z : Ad) : ∀ ds h Q X, S_Ledger___getitem__ z ds h Q X → w_Ledger___getitem__ z (endsD Q X) (startD 2 ds) h := pr_getit z.Ledger
theorem p_Ledger___contains__ (z : Ad) : ∀ ds h Q X, S_Ledger___contains__ z ds h Q X → w_Ledger___contains__ z (endsD Q X) (startD 2 ds) h := by
  rintro ds h Q X ⟨es, x, t, rfl, e, q⟩
  have q := fin_of q
  show w_Ledger___contains__ z (endsD Q X) [some (ledD z.Ledger es), some x] h
  unfold w_Ledger___contains__ ledD
  simp only [u_asg, u_gN, u_ret, u_retN, u_skip, u_expr, u_ifs, u_c, u_op, u_neg, u_test, u_and, u_or, u_not, u_if, u_nil, u_cons, u_tup, u_lst, u_callP, u_call, u_b, u_chain, u_andV, u_addI, u_subI, u_mulI, u_divI, u_modI, u_powI, u_cmpI, u_eqI, u_eqS, u_eqB, u_abs, u_intI, u_intB, u_newT, u_newF, u_isN, u_notN, wVar, List.set_cons_zero, List.set_cons_succ, List.getElem?_cons_zero, List.getElem?_cons_succ, List.length_cons, List.length_nil, u_lc, u_for, u_r1, u_r2, u_r3, u_num, u_notV, u_yes, u_w0, u_w1, u_dput, u_get2, u_dget, u_prop, u_fld, u_setF, u_make, u_makeS, u_met, u_calO, u_orT, u_tupIt, u_dc, u_maxDd, u_dnew, u_tupi, ix_p0, ix_p1, wSl, woNone, woSome]
  refine ⟨trivial, x, t, rfl, e, ?_⟩
  dsimp only
  cases x with
  | int k =>
    obtain rfl : t = "int" := (Option.some.inj e).symm
    refine go_yes rfl ⟨_, _, rfl, rfl, toK es, Sum.inl k, rfl, rfl, ?_⟩
    rw [has_toK]
    exact q
  | ref a =>
    have ni : t ≠ "int" := by
      rintro rfl
      obtain ⟨i, e2⟩ := ty_isint e
      cases e2
    rw [decide_eq_false ni]
    exact go_no rfl q
  | _ =>
    have ni : t ≠ "int" := by
      rintro rfl
      obtain ⟨i, e2⟩ := ty_isint e
      cases e2
    rw [decide_eq_false ni]
    exact go_no rfl q
theorem p_Ledger___eq__ (z : Ad) : ∀ ds h Q X, S_Ledger___eq__ z ds h Q X → w_Ledger___eq__ z (endsD Q X) (startD 2 ds) h := by
  rintro ds h Q X ⟨es, y, rfl, s1, q⟩
  show w_Ledger___eq__ z (endsD Q X) [some (ledD z.Ledger es), some y] h
  unfold w_Ledger___eq__
  rcases q with ⟨fs, rfl, s2, q⟩ | ⟨n, e, q⟩
  · simp only [u_asg, u_gN, u_ret, u_retN, u_skip, u_expr, u_ifs, u_c, u_op, u_neg, u_test, u_and, u_or, u_not, u_if, u_nil, u_cons, u_tup, u_lst, u_callP, u_call, u_b, u_chain, u_andV, u_addI, u_subI, u_mulI, u_divI, u_modI, u_powI, u_cmpI, u_eqI, u_eqS, u_eqB, u_abs, u_intI, u_intB, u_newT, u_newF, u_isN, u_notN, wVar, List.set_cons_zero, List.set_cons_succ, List.getElem?_cons_zero, List.getElem?_cons_succ, List.length_cons, List.length_nil, u_lc, u_for, u_r1, u_r2, u_r3, u_num, u_notV, u_yes, u_w0, u_w1, u_dput, u_get2, u_dget, u_prop, u_fld, u_setF, u_make, u_makeS, u_met, u_calO, u_orT, u_tupIt, u_dc, u_maxDd, u_dnew, u_tupi, ix_p0, ix_p1, wSl, woNone, woSome]
    obtain ⟨r, h1, h2⟩ := PN.hit_same s1 s2
    refine isS_ins (b := true) rfl (by unfold ii_Ledger; simp) (go_yes rfl ?_)
    refine ⟨_, _, rfl, rfl, _, _, rfl, rfl, toK es, toK fs, r, rfl, rfl, h1, ?_⟩
    rw [h2]
    exact fin_of q
  · simp only [u_asg, u_gN, u_ret, u_retN, u_skip, u_expr, u_ifs, u_c, u_op, u_neg, u_test, u_and, u_or, u_not, u_if, u_nil, u_cons, u_tup, u_lst, u_callP, u_call, u_b, u_chain, u_andV, u_addI, u_subI, u_mulI, u_divI, u_modI, u_powI, u_cmpI, u_eqI, u_eqS, u_eqB, u_abs, u_intI, u_intB, u_newT, u_newF, u_isN, u_notN, wVar, List.set_cons_zero, List.set_cons_succ, List.getElem?_cons_zero, List.getElem?_cons_succ, List.length_cons, List.length_nil, u_lc, u_for, u_r1, u_r2, u_r3, u_num, u_notV, u_yes, u_w0, u_w1, u_dput, u_get2, u_dget, u_prop, u_fld, u_setF, u_make, u_makeS, u_met, u_calO, u_orT, u_tupIt, u_dc, u_maxDd, u_dnew, u_tupi, ix_p0, ix_p1, wSl, woNone, woSome]
    exact isS_ty (b := false) (ty_ins e) e (ty_led e) (go_no rfl (fin_of q))
theorem num_sho {n : Nat} (h : n ≤ 1000) : ((n : Nat) : Int).natAbs.log2 < 1920 ∧ (toString ((n : Nat) : Int) : Str).length ≤ 100 := by
  obtain ⟨_, s, _, l⟩ := rp_int (i := ((n : Nat) : Int)) (j := 20) (by decide) (by decide) (by omega)
  rw [pd, PyData.showable] at s
  rw [pd, PyData.shown] at l
  exact ⟨of_decide_eq_true s, Nat.le_trans l (by decide)⟩
theorem p_Ledger___repr__ (z : Ad) : ∀ ds h Q X, S_Ledger___repr__ z ds h Q X → w_Ledger___repr__ z (endsD Q X) (startD 1 ds) h := by
  rintro ds h Q X ⟨es, rfl, ln, q⟩
  show w_Ledger___repr__ z (endsD Q X) [some (ledD z.Ledger es)] h
  unfold w_Ledger___repr__
  simp only [u_join, u_asg, u_gN, u_ret, u_retN, u_skip, u_expr, u_ifs, u_c, u_op, u_neg, u_test, u_and, u_or, u_not, u_if, u_nil, u_cons, u_tup, u_lst, u_callP, u_call, u_b, u_chain, u_andV, u_addI, u_subI, u_mulI, u_divI, u_modI, u_powI, u_cmpI, u_eqI, u_eqS, u_eqB, u_abs, u_intI, u_intB, u_newT, u_newF, u_isN, u_notN, wVar, List.set_cons_zero, List.set_cons_succ, List.getElem?_cons_zero, List.getElem?_cons_succ, List.length_cons, List.length_nil, u_lc, u_for, u_r1, u_r2, u_r3, u_num, u_notV, u_yes, u_w0, u_w1, u_dput, u_get2, u_dget, u_prop, u_fld, u_setF, u_make, u_makeS, u_met, u_calO, u_orT, u_tupIt, u_dc, u_maxDd, u_dnew, u_tupi, ix_p0, ix_p1, wSl, woNone, woSome, jsD, u_fmtI]
  have sh := num_sho ln
  have n1 : (Str.ofString "Ledger(").length ≤ 100 := by decide +kernel
  have n3 : (Str.ofString " rows)").length ≤ 100 := by decide +kernel
  have m1 := sh.2
  refine ⟨_, rfl, ?_⟩
  rw [show (Str.empty ++ Str.ofString "Ledger(") = Str.ofString "Ledger(" from Str.ext' (by rw [Str.cps_append]; exact Array.empty_append)]
  refine ⟨sz_t (by omega), ?_⟩
  rw [u_lenO]
  refine ⟨ledD_isI, es, rfl, es.length, rfl, Nat.lt_of_le_of_lt ln (by decide), .inr ⟨((es.length : Nat) : Int), rfl, sh.1, _, rfl, sz_t (by rw [Str.length_append]; omega), _, rfl, sz_t (by simp only [Str.length_append]; omega), fin_of q⟩⟩
theorem p_Ledger___add__ (z : Ad) : ∀ ds h Q X, S_Ledger___add__ z ds h Q X → w_Ledger___add__ z (endsD Q X) (startD 3 ds) h := by
  rintro ds h Q X ⟨es, fs, rfl, ha', hf, hl, q⟩
  show w_Ledger___add__ z (endsD Q X) [some (ledD z.Ledger es), some (ledD z.Ledger fs), none] h
  unfold w_Ledger___add__
  ((try dsimp only); rw [u_seq]; (try simp only [u_asg, u_gN, u_ret, u_retN, u_skip, u_expr, u_ifs, u_c, u_op, u_neg, u_test, u_and, u_or, u_not, u_if, u_nil, u_cons, u_tup, u_lst, u_callP, u_call, u_b, u_chain, u_andV, u_addI, u_subI, u_mulI, u_divI, u_modI, u_powI, u_cmpI, u_eqI, u_eqS, u_eqB, u_abs, u_intI, u_intB, u_newT, u_newF, u_isN, u_notN, wVar, List.set_cons_zero, List.set_cons_succ, List.getElem?_cons_zero, List.getElem?_cons_succ, List.length_cons, List.length_nil, u_lc, u_for, u_r1, u_r2, u_r3, u_num, u_notV, u_yes, u_w0, u_w1, u_dput, u_get2, u_dget, u_prop, u_fld, u_setF, u_make, u_makeS, u_met, u_calO, u_orT, u_tupIt, u_dc, u_maxDd, u_dnew, u_tupi, ix_p0, ix_p1, wSl, woNone, woSome]))
  refine ⟨ledD_isI, es, rfl, ledD_isI, fs, rfl, ?_⟩
  refine ⟨sz_t (by simp; omega), ?_⟩
  refine ⟨_, rfl, fun a ha => ⟨by simp, sz_t (by simp; omega), a, es ++ fs, [], by simp, up_same, ha'.append hf, by simp; omega, .inl ⟨rfl, fun gs l1 l2 => ⟨rfl, _, up_same, ?_⟩⟩⟩⟩
  rw [up_up, rm_up, rm_none ha]
  exact fin_of (q gs (l1.of_amt fun k => amt_append) (l1.inR (ha'.append hf)) (by rw [List.length_append] at l2; exact l2))
theorem u_dnF {ρ : EnvD} {h : AH} {Q : KD} {X : KX} : wDnewF ρ h Q X = Q (.dK []) h := rfl
def odd1 : List D := [.non, .int 5, .tup [], .tup [.int 1], .tup [.int 1, .int 2, .int 3], .lst [.int 1, .int 2], .tup [.bl true, .int 2], .tup [.int 1, .bl false], .tup [.int (-1), .int 2], .tup [.int 1000001, .int 2], .tup [.str "1", .int 2]]
theorem p__law_odd (z : Ad) : ∀ ds h Q X, S__law_odd z ds h Q X → w__law_odd z (endsD Q X) (startD 2 ds) h := by
  rintro ds h Q X ⟨n, p, rfl, I, hn, q⟩
  show w__law_odd z (endsD Q X) [some (.ref p), none] h
  replace I := Inv0.start I
  unfold w__law_odd
  refine seq_go (fun ρ h' => ρ = [some (.ref p), some (.lst odd1)] ∧ h = h') (fun K k => ?_) ?_
  · rw [u_asg]
    rw [u_lst]
    rw [u_cons]
    rw [u_c]
    rw [u_cons]
    rw [u_c]
    rw [u_cons]
    rw [u_tup]
    rw [u_nil]
    refine ⟨by decide, ?_⟩
    rw [u_cons]
    rw [u_tup]
    rw [u_cons]
    rw [u_c]
    rw [u_nil]
    refine ⟨by decide, ?_⟩
    rw [u_cons]
    rw [u_tup]
    rw [u_cons]
    rw [u_c]
    rw [u_cons]
    rw [u_c]
    rw [u_cons]
    rw [u_c]
    rw [u_nil]
    refine ⟨by decide, ?_⟩
    rw [u_cons]
    rw [u_lst]
    rw [u_cons]
    rw [u_c]
    rw [u_cons]
    rw [u_c]
    rw [u_nil]
    refine ⟨by decide, ?_⟩
    rw [u_newF]
    rw [u_cons]
    rw [u_tup]
    rw [u_cons]
    rw [u_c]
    rw [u_cons]
    rw [u_c]
    rw [u_nil]
    refine ⟨by decide, ?_⟩
    rw [u_cons]
    rw [u_tup]
    rw [u_cons]
    rw [u_c]
    rw [u_cons]
    rw [u_c]
    rw [u_nil]
    refine ⟨by decide, ?_⟩
    rw [u_cons]
    rw [u_tup]
    rw [u_cons]
    rw [u_neg, u_c]
    dsimp only
    rw [u_cons]
    rw [u_c]
    rw [u_nil]
    refine ⟨by decide, ?_⟩
    rw [u_cons]
    rw [u_tup]
    rw [u_cons]
    rw [u_op, u_op, u_c, u_c, u_powI]
    refine ⟨⟨by decide, by decide, by decide⟩, ?_⟩
    rw [u_c, u_addI]
    rw [u_cons]
    rw [u_c]
    rw [u_nil]
    refine ⟨by decide, ?_⟩
    rw [u_cons]
    rw [u_tup]
    rw [u_cons]
    rw [u_c]
    rw [u_cons]
    rw [u_c]
    rw [u_nil]
    refine ⟨by decide, ?_⟩
    rw [u_nil]
    refine ⟨by decide, ?_⟩
    rw [u_newF]
    rw [u_gN]
    exact k _ _ ⟨by rw [show (10 ^ Int.toNat 6 + 1 : Int) = 1000001 by decide +kernel]; rfl, rfl⟩
  rintro _ _ ⟨rfl, rfl⟩
  rw [u_ret, u_op, u_op, u_var (d := .lst odd1) rfl]
  rw [u_lst]
  rw [u_cons]
  rw [u_tup]
  rw [u_cons]
  rw [u_c]
  rw [u_cons]
  rw [u_c]
  rw [u_nil]
  refine ⟨by decide, ?_⟩
  rw [u_cons]
  rw [u_tup]
  rw [u_cons]
  rw [u_c]
  rw [u_cons]
  rw [u_c]
  rw [u_nil]
  refine ⟨by decide, ?_⟩
  rw [u_cons]
  rw [u_tup]
  rw [u_cons]
  rw [u_tup]
  rw [u_cons]
  rw [u_c]
  rw [u_cons]
  rw [u_c]
  rw [u_nil]
  refine ⟨by decide, ?_⟩
  rw [u_nil]
  refine ⟨by decide, ?_⟩
  rw [u_cons]
  rw [u_dnF]
  rw [u_cons]
  rw [u_tup]
  rw [u_cons]
  rw [u_lst]
  rw [u_cons]
  rw [u_c]
  rw [u_nil]
  refine ⟨by decide, ?_⟩
  rw [u_newF]
  rw [u_cons]
  rw [u_c]
  rw [u_nil]
  refine ⟨by decide, ?_⟩
  rw [u_cons]
  rw [u_c]
  rw [u_nil]
  refine ⟨by decide, ?_⟩
  rw [u_newF]
  refine K26.addL_go (by decide) ?_
  simp only [u_callP, u_cons, u_nil, u_c]
  rw [u_var rfl]
  refine ⟨rfl, n, p, 17, rfl, I.pen, by omega, div_ok (by decide) (by decide), fun v o h1 h2 r => ?_⟩
  dsimp only
  obtain ⟨j, rfl⟩ := Int.eq_ofNat_of_zero_le h1
  have lj : j < oddR.length := by show j < 17; omega
  have ej : atI oddR ((j : Nat) : Int) = some oddR[j] := by rw [DL.atI_nat lj, List.getElem?_eq_getElem lj]
  show dIx (.lst oddR) _ _ _
  rw [u_ixLd ej]
  exact fin_of (q _ o (List.getElem_mem lj) r)
end K25
namespace K26
open PySem PySem.Spec L2 C8 DL PK PL PQ PN PB F4 PR
def fS (es : Prs) (x : D) : Option D := match x with
  | .int y => if getI es y ≠ 0 then some (.tup [.int y, .int (getI es y)]) else none
  | _ => none
theorem fS_eq (es : Prs) : ∀ ys : List Int, (ys.map D.int).filterMap (fS es) = (keyed (getI es) ys).map pairD
  | [] => rfl
  | y :: ys => by
    have ih := fS_eq es ys
    unfold keyed at ih ⊢
    rw [List.map_cons, List.filterMap_cons, List.filterMap_cons]
    by_cases c : getI es y ≠ 0
    · have e : fS es (.int y) = some (.tup [.int y, .int (getI es y)]) := if_pos c
      rw [e, if_pos c, List.map_cons, ih]
      rfl
    · have e : fS es (.int y) = none := if_neg c
      rw [e, if_neg c, ih]
theorem p__law_sums (z : Ad) : ∀ ds h Q X, S__law_sums z ds h Q X → w__law_sums z (endsD Q X) (startD 4 ds) h := by
  rintro ds h Q X ⟨rows, rfl, hl, q⟩
  show w__law_sums z (endsD Q X) [some (.lst (rows.map pairD)), none, none, none] h
  have big := DL.big_size
  unfold w__law_sums
  rw [u_seq]
  simp only [u_asg, u_gN, u_ret, u_retN, u_skip, u_expr, u_ifs, u_c, u_op, u_neg, u_test, u_and, u_or, u_not, u_if, u_nil, u_cons, u_tup, u_lst, u_callP, u_call, u_b, u_chain, u_andV, u_addI, u_subI, u_mulI, u_divI, u_modI, u_powI, u_cmpI, u_eqI, u_eqS, u_eqB, u_abs, u_intI, u_intB, u_newT, u_newF, u_isN, u_notN, wVar, List.set_cons_zero, List.set_cons_succ, List.getElem?_cons_zero, List.getElem?_cons_succ, List.length_cons, List.length_nil, u_lc, u_for, u_r1, u_r2, u_r3, u_num, u_notV, u_yes, u_w0, u_w1, u_dnew]
  intro p hp
  rw [u_seq, u_for, u_seqi, u_var rfl]
  refine loop_go (fun i ρ h' => ∃ (es : Prs) (b c : Option D), ρ = [some (.lst (rows.map pairD)), some (.ref p), b, c] ∧ h' = up h p (.dK (toK es)) ∧ (es.map (·.1)).Nodup ∧ (∀ k, getI es k = amt (rows.take i) k) ∧ es.length ≤ i) ⟨[], _, _, rfl, rfl, List.nodup_nil, fun k => rfl, Nat.le_refl _⟩ (fun _ _ _ _ => trivial) ?_ ?_
  · rintro i x _ _ K hi ⟨es, b, c, rfl, rfl, nd, hg, le⟩ k
    obtain ⟨r, hr1, rfl, li⟩ := get_pairs hi
    refine ⟨_, rfl, rfl, _, _, rfl, _, _, rfl, rfl, ?_⟩
    simp only [u_dput, u_get2, u_asg, u_gN, u_ret, u_retN, u_skip, u_expr, u_ifs, u_c, u_op, u_neg, u_test, u_and, u_or, u_not, u_if, u_nil, u_cons, u_tup, u_lst, u_callP, u_call, u_b, u_chain, u_andV, u_addI, u_subI, u_mulI, u_divI, u_modI, u_powI, u_cmpI, u_eqI, u_eqS, u_eqB, u_abs, u_intI, u_intB, u_newT, u_newF, u_isN, u_notN, wVar, List.set_cons_zero, List.set_cons_succ, List.getElem?_cons_zero, List.getElem?_cons_succ, List.length_cons, List.length_nil, u_lc, u_for, u_r1, u_r2, u_r3, u_num, u_notV, u_yes, u_w0, u_w1]
    refine ⟨by simp [dkOf], toK es, _, by simp [dkOf], rfl, ?_⟩
    rw [val_getD, u_addI]
    refine ⟨p, toK es, _, rfl, up_same, rfl, by rw [toK_len]; omega, ?_⟩
    rw [up_up, putD_toK]
    refine k _ _ ⟨_, _, _, rfl, rfl, nodup_put nd, fun j => ?_, Nat.le_trans len_put (by omega)⟩
    rw [getI_put, amt_take hr1]
    by_cases e : j = r.1
    · subst e; rw [if_pos rfl, if_pos rfl, hg]
    · rw [if_neg e, if_neg (fun z => e z.symm), hg, Int.add_zero]
  · rintro _ _ ⟨es, b, c, rfl, rfl, nd, hg, le⟩
    rw [List.length_map] at hg le
    rw [List.take_length] at hg
    simp only [u_lc, u_seqi, u_asg, u_gN, u_ret, u_retN, u_skip, u_expr, u_ifs, u_c, u_op, u_neg, u_test, u_and, u_or, u_not, u_if, u_nil, u_cons, u_tup, u_lst, u_callP, u_call, u_b, u_chain, u_andV, u_addI, u_subI, u_mulI, u_divI, u_modI, u_powI, u_cmpI, u_eqI, u_eqS, u_eqB, u_abs, u_intI, u_intB, u_newT, u_newF, u_isN, u_notN, wVar, List.set_cons_zero, List.set_cons_succ, List.getElem?_cons_zero, List.getElem?_cons_succ, List.length_cons, List.length_nil, u_lc, u_for, u_r1, u_r2, u_r3, u_num, u_notV, u_yes, u_w0, u_w1]
    refine ⟨.ref p, toK es, es.map (·.1), rfl, by simp [dkOf], toK_keys es, fun ys hp1 hp2 => ?_⟩
    rw [u_newF]
    intro p2 hp2'
    have ndy : ys.Nodup := hp1.nodup_iff.mpr nd
    have ly : ys.length = es.length := by rw [hp1.length_eq, List.length_map]
    have p2p : p2 ≠ p := by rintro rfl; simp at hp2'
    have hp2h : h p2 = none := by rw [up_ne p2p] at hp2'; exact hp2'
    refine comp_pure (fS es) (fun _ => trivial) (by rw [List.length_map]; omega) ?_ ?_
    · intro x acc K hx la k
      obtain ⟨y, hy, rfl⟩ := List.mem_map.mp hx
      have my : y ∈ es.map (·.1) := hp1.mem_iff.mp hy
      rw [u_gN]
      simp only [u_asg, u_gN, u_ret, u_retN, u_skip, u_expr, u_ifs, u_c, u_op, u_neg, u_test, u_and, u_or, u_not, u_if, u_nil, u_cons, u_tup, u_lst, u_callP, u_call, u_b, u_chain, u_andV, u_addI, u_subI, u_mulI, u_divI, u_modI, u_powI, u_cmpI, u_eqI, u_eqS, u_eqB, u_abs, u_intI, u_intB, u_newT, u_newF, u_isN, u_notN, wVar, List.set_cons_zero, List.set_cons_succ, List.getElem?_cons_zero, List.getElem?_cons_succ, List.length_cons, List.length_nil, u_lc, u_for, u_r1, u_r2, u_r3, u_num, u_notV, u_yes, u_w0, u_w1, u_dget]
      have gp : (up (up h p (.dK (toK es))) p2 (.lst acc)) p = some (.dK (toK es)) := by rw [up_ne p2p.symm]; exact up_same
      refine ⟨toK es, _, _, dk_ref gp, rfl, val_some my, ?_⟩
      rw [u_eqI]
      by_cases z : getI es y = 0
      · rw [decide_eq_true z]
        simp only [Bool.not_true, Bool.false_eq_true, if_false]
        have : fS es (.int y) = none := if_neg (by simpa using z)
        rw [this] at k
        simpa using k
      · rw [decide_eq_false z]
        simp only [Bool.not_false, if_true]
        have : fS es (.int y) = some (.tup [.int y, .int (getI es y)]) := if_pos z
        rw [this] at k
        exact ⟨toK es, _, _, dk_ref gp, rfl, val_some my, sz_le (show 2 ≤ 100000 by decide), acc, up_same, la, by rw [up_up]; exact k⟩
    · rw [fS_eq]
      have led : Led (keyed (getI es) ys) (amt rows) := by
        have := keyed_led (A := getI es) hp2 ndy fun k hk => hp1.mem_iff.mpr (by
          cases c : hasI es k with
          | true => exact hasI_keys.mp c
          | false => exact absurd (getI_no c) hk)
        exact this.of_amt hg
      refine endF hp2' ⟨_, _, rfl, rfl, fin_sub (sub_up hp) (q _ led (by have := keyed_len (A := getI es) (ys := ys); omega))⟩
end K26
namespace K25
open PySem PySem.Spec L2 C8 DL PK PL PQ PN PB F4 PR
open K26 (fS fS_eq)
theorem p__law_sums (z : Ad) : ∀ ds h Q X, S__law_sums z ds h Q X → w__law_sums z (endsD Q X) (startD 4 ds) h := by
  rintro ds h Q X ⟨rows, rfl, hl, q⟩
  show w__law_sums z (endsD Q X) [some (.lst (rows.map pairD)), none, none, none] h
  have big := DL.big_size
  unfold w__law_sums
  rw [u_seq]
  simp only [u_asg, u_gN, u_ret, u_retN, u_skip, u_expr, u_ifs, u_c, u_op, u_neg, u_test, u_and, u_or, u_not, u_if, u_nil, u_cons, u_tup, u_lst, u_callP, u_call, u_b, u_chain, u_andV, u_addI, u_subI, u_mulI, u_divI, u_modI, u_powI, u_cmpI, u_eqI, u_eqS, u_eqB, u_abs, u_intI, u_intB, u_newT, u_newF, u_isN, u_notN, wVar, List.set_cons_zero, List.set_cons_succ, List.getElem?_cons_zero, List.getElem?_cons_succ, List.length_cons, List.length_nil, u_lc, u_for, u_r1, u_r2, u_r3, u_num, u_notV, u_yes, u_w0, u_w1, u_dnew]
  intro p hp
  rw [u_seq, u_for, u_seqi, u_var rfl]
  refine loop_go (fun i ρ h' => ∃ (es : Prs) (b c : Option D), ρ = [some (.lst (rows.map pairD)), some (.ref p), b, c] ∧ h' = up h p (.dK (toK es)) ∧ (es.map (·.1)).Nodup ∧ (∀ k, getI es k = amt (rows.take i) k) ∧ es.length ≤ i) ⟨[], _, _, rfl, rfl, List.nodup_nil, fun k => rfl, Nat.le_refl _⟩ (fun _ _ _ _ => trivial) ?_ ?_
  · rintro i x _ _ K hi ⟨es, b, c, rfl, rfl, nd, hg, le⟩ k
    obtain ⟨r, hr1, rfl, li⟩ := get_pairs hi
    refine ⟨_, rfl, rfl, _, _, rfl, _, _, rfl, rfl, ?_⟩
    simp only [u_dput, u_get2, u_asg, u_gN, u_ret, u_retN, u_skip, u_expr, u_ifs, u_c, u_op, u_neg, u_test, u_and, u_or, u_not, u_if, u_nil, u_cons, u_tup, u_lst, u_callP, u_call, u_b, u_chain, u_andV, u_addI, u_subI, u_mulI, u_divI, u_modI, u_powI, u_cmpI, u_eqI, u_eqS, u_eqB, u_abs, u_intI, u_intB, u_newT, u_newF, u_isN, u_notN, wVar, List.set_cons_zero, List.set_cons_succ, List.getElem?_cons_zero, List.getElem?_cons_succ, List.length_cons, List.length_nil, u_lc, u_for, u_r1, u_r2, u_r3, u_num, u_notV, u_yes, u_w0, u_w1]
    refine ⟨by simp [dkOf], toK es, _, by simp [dkOf], rfl, ?_⟩
    rw [val_getD, u_addI]
    refine ⟨p, toK es, _, rfl, up_same, rfl, by rw [toK_len]; omega, ?_⟩
    rw [up_up, putD_toK]
    refine k _ _ ⟨_, _, _, rfl, rfl, nodup_put nd, fun j => ?_, Nat.le_trans len_put (by omega)⟩
    rw [getI_put, amt_take hr1]
    by_cases e : j = r.1
    · subst e; rw [if_pos rfl, if_pos rfl, hg]
    · rw [if_neg e, if_neg (fun z => e z.symm), hg, Int.add_zero]
  · rintro _ _ ⟨es, b, c, rfl, rfl, nd, hg, le⟩
    rw [List.length_map] at hg le
    rw [List.take_length] at hg
    simp only [u_lc, u_seqi, u_asg, u_gN, u_ret, u_retN, u_skip, u_expr, u_ifs, u_c, u_op, u_neg, u_test, u_and, u_or, u_not, u_if, u_nil, u_cons, u_tup, u_lst, u_callP, u_call, u_b, u_chain, u_andV, u_addI, u_subI, u_mulI, u_divI, u_modI, u_powI, u_cmpI, u_eqI, u_eqS, u_eqB, u_abs, u_intI, u_intB, u_newT, u_newF, u_isN, u_notN, wVar, List.set_cons_zero, List.set_cons_succ, List.getElem?_cons_zero, List.getElem?_cons_succ, List.length_cons, List.length_nil, u_lc, u_for, u_r1, u_r2, u_r3, u_num, u_notV, u_yes, u_w0, u_w1]
    refine ⟨.ref p, toK es, es.map (·.1), rfl, by simp [dkOf], toK_keys es, fun ys hp1 hp2 => ?_⟩
    rw [u_newF]
    intro p2 hp2'
    have ndy : ys.Nodup := hp1.nodup_iff.mpr nd
    have ly : ys.length = es.length := by rw [hp1.length_eq, List.length_map]
    have p2p : p2 ≠ p := by rintro rfl; simp at hp2'
    have hp2h : h p2 = none := by rw [up_ne p2p] at hp2'; exact hp2'
    refine comp_pure (fS es) (fun _ => trivial) (by rw [List.length_map]; omega) ?_ ?_
    · intro x acc K hx la k
      obtain ⟨y, hy, rfl⟩ := List.mem_map.mp hx
      have my : y ∈ es.map (·.1) := hp1.mem_iff.mp hy
      rw [u_gN]
      simp only [u_asg, u_gN, u_ret, u_retN, u_skip, u_expr, u_ifs, u_c, u_op, u_neg, u_test, u_and, u_or, u_not, u_if, u_nil, u_cons, u_tup, u_lst, u_callP, u_call, u_b, u_chain, u_andV, u_addI, u_subI, u_mulI, u_divI, u_modI, u_powI, u_cmpI, u_eqI, u_eqS, u_eqB, u_abs, u_intI, u_intB, u_newT, u_newF, u_isN, u_notN, wVar, List.set_cons_zero, List.set_cons_succ, List.getElem?_cons_zero, List.getElem?_cons_succ, List.length_cons, List.length_nil, u_lc, u_for, u_r1, u_r2, u_r3, u_num, u_notV, u_yes, u_w0, u_w1, u_dget]
      have gp : (up (up h p (.dK (toK es))) p2 (.lst acc)) p = some (.dK (toK es)) := by rw [up_ne p2p.symm]; exact up_same
      refine ⟨toK es, _, _, dk_ref gp, rfl, val_some my, ?_⟩
      rw [u_eqI]
      by_cases z : getI es y = 0
      · rw [decide_eq_true z]
        simp only [Bool.not_true, Bool.false_eq_true, if_false]
        have : fS es (.int y) = none := if_neg (by simpa using z)
        rw [this] at k
        simpa using k
      · rw [decide_eq_false z]
        simp only [Bool.not_false, if_true]
        have : fS es (.int y) = some (.tup [.int y, .int (getI es y)]) := if_pos z
        rw [this] at k
        exact ⟨toK es, _, _, dk_ref gp, rfl, val_some my, sz_le (show 2 ≤ 100000 by decide), acc, up_same, la, by rw [up_up]; exact k⟩
    · rw [fS_eq]
      have led : Led (keyed (getI es) ys) (amt rows) := by
        have := keyed_led (A := getI es) hp2 ndy fun k hk => hp1.mem_iff.mpr (by
          cases c : hasI es k with
          | true => exact hasI_keys.mp c
          | false => exact absurd (getI_no c) hk)
        exact this.of_amt hg
      refine endF hp2' ⟨_, _, rfl, rfl, fin_sub (sub_up hp) (q _ led (by have := keyed_len (A := getI es) (ys := ys); omega))⟩
theorem mk_go {z : Ad} {rows : Prs} {tail : List D} {h : AH} {Q : KD} {X : KX} (ir : InR rows) (ln : rows.length + tail.length ≤ 100) (m : Mkd z rows tail h (∀ gs, Led gs (amt rows) → InR gs → gs.length ≤ rows.length → Q (ledD z.Ledger gs) h) X) :
    ∀ a, h a = none → starS 1 (S_Ledger___init__ z) (D.ref a :: (rows.map pairD ++ tail)) (up h a (AO.ins z.Ledger [])) (fun v h2 => v = D.non ∧ ∃ fs, h2 a = some (AO.ins z.Ledger fs) ∧ Q (D.ob z.Ledger fs) (rm h2 a)) X := fun a ha =>
  ⟨by simp, sz_t (by simp; omega), a, rows, tail, rfl, up_same, ir, by omega, m.imp (fun ⟨e, q⟩ => ⟨e, fun es l1 l2 => ⟨rfl, _, up_same, by
    rw [up_up, rm_up, rm_none ha]
    exact q es l1 (l1.inR ir) l2⟩⟩) fun ⟨x, t, e, o, k⟩ => ⟨x, t, e, o, fun h' s => k h' fun b u hb => s b u (sub_up ha b u hb)⟩⟩
theorem ix_l (i : Nat) {n : Int} (hn : n = (i : Int)) {xs : List D} {x : D} {h : AH} {Q : KD} (e : xs[i]? = some x) (q : Q x h) : dIx (.lst xs) (.int n) h Q := by
  subst hn
  obtain ⟨l, _⟩ := List.getElem?_eq_some_iff.mp e
  rw [u_ixLd (by rw [DL.atI_nat l]; exact e)]
  exact q
theorem p__law_ledger (z : Ad) : ∀ ds h Q X, S__law_ledger z ds h Q X → w__law_ledger z (endsD Q X) (startD 1 ds) h := by
  rintro ds h Q X ⟨rows, tail, rfl, ir, ln, m⟩
  show w__law_ledger z (endsD Q X) [some (.lst (rows.map pairD ++ tail))] h
  have mk := mk_go (Q := (endsD Q X).rt) ir (by omega) (m.mo (fun q gs l1 l2 l3 => fin_of (q gs l1 l2 l3)) fun _ _ z => z)
  have lL : (rows.map pairD ++ tail).length ≤ 6 := by rw [List.length_append, List.length_map]; exact ln
  generalize rows.map pairD ++ tail = L at mk lL ⊢
  clear m
  unfold w__law_ledger
  ((try dsimp only); rw [u_seq]; (try simp only [u_asg, u_gN, u_ret, u_retN, u_skip, u_expr, u_ifs, u_c, u_op, u_neg, u_test, u_and, u_or, u_not, u_if, u_nil, u_cons, u_tup, u_lst, u_callP, u_call, u_b, u_chain, u_andV, u_addI, u_subI, u_mulI, u_divI, u_modI, u_powI, u_cmpI, u_eqI, u_eqS, u_eqB, u_abs, u_intI, u_intB, u_newT, u_newF, u_isN, u_notN, wVar, List.set_cons_zero, List.set_cons_succ, List.getElem?_cons_zero, List.getElem?_cons_succ, List.length_cons, List.length_nil, u_lc, u_for, u_r1, u_r2, u_r3, u_num, u_notV, u_yes, u_w0, u_w1, u_dput, u_get2, u_dget, u_prop, u_fld, u_setF, u_make, u_makeS, u_met, u_calO, u_orT, u_tupIt, u_dc, u_maxDd, u_dnew, u_tupi, ix_p0, ix_p1, wSl, woNone, woSome]))
  rw [u_lenL]
  try dsimp only
  rw [u_cmpI]
  try dsimp only
  by_cases c : ((L.length : Nat) : Int) < 2
  · refine go_yes (decide_eq_true c) ?_
    refine ⟨by decide, rfl, L, rfl, ?_⟩
    match L, c, mk with
    | [], _, mk => exact go_no rfl mk
    | [a], _, mk => exact go_yes rfl (ix_l 0 rfl rfl mk)
    | _ :: _ :: _, c, _ => exact absurd c (by simp; omega)
  refine go_no (decide_eq_false c) ?_
  ((try dsimp only); rw [u_seq]; (try simp only [u_asg, u_gN, u_ret, u_retN, u_skip, u_expr, u_ifs, u_c, u_op, u_neg, u_test, u_and, u_or, u_not, u_if, u_nil, u_cons, u_tup, u_lst, u_callP, u_call, u_b, u_chain, u_andV, u_addI, u_subI, u_mulI, u_divI, u_modI, u_powI, u_cmpI, u_eqI, u_eqS, u_eqB, u_abs, u_intI, u_intB, u_newT, u_newF, u_isN, u_notN, wVar, List.set_cons_zero, List.set_cons_succ, List.getElem?_cons_zero, List.getElem?_cons_succ, List.length_cons, List.length_nil, u_lc, u_for, u_r1, u_r2, u_r3, u_num, u_notV, u_yes, u_w0, u_w1, u_dput, u_get2, u_dget, u_prop, u_fld, u_setF, u_make, u_makeS, u_met, u_calO, u_orT, u_tupIt, u_dc, u_maxDd, u_dnew, u_tupi, ix_p0, ix_p1, wSl, woNone, woSome]))
  rw [u_lenL]
  try dsimp only
  rw [u_eqI]
  try dsimp only
  by_cases c2 : ((L.length : Nat) : Int) = 2
  · refine go_yes (decide_eq_true c2) ?_
    match L, c2, mk with
    | [a, b], _, mk => exact ix_l 0 rfl rfl (ix_l 1 rfl rfl mk)
    | [], c2, _ => exact absurd c2 (by simp)
    | [_], c2, _ => exact absurd c2 (by simp)
    | _ :: _ :: _ :: _, c2, _ => exact absurd c2 (by simp; omega)
  refine go_no (decide_eq_false c2) ?_
  ((try dsimp only); rw [u_seq]; (try simp only [u_asg, u_gN, u_ret, u_retN, u_skip, u_expr, u_ifs, u_c, u_op, u_neg, u_test, u_and, u_or, u_not, u_if, u_nil, u_cons, u_tup, u_lst, u_callP, u_call, u_b, u_chain, u_andV, u_addI, u_subI, u_mulI, u_divI, u_modI, u_powI, u_cmpI, u_eqI, u_eqS, u_eqB, u_abs, u_intI, u_intB, u_newT, u_newF, u_isN, u_notN, wVar, List.set_cons_zero, List.set_cons_succ, List.getElem?_cons_zero, List.getElem?_cons_succ, List.length_cons, List.length_nil, u_lc, u_for, u_r1, u_r2, u_r3, u_num, u_notV, u_yes, u_w0, u_w1, u_dput, u_get2, u_dget, u_prop, u_fld, u_setF, u_make, u_makeS, u_met, u_calO, u_orT, u_tupIt, u_dc, u_maxDd, u_dnew, u_tupi, ix_p0, ix_p1, wSl, woNone, woSome]))
  rw [u_lenL]
  try dsimp only
  rw [u_eqI]
  try dsimp only
  by_cases c3 : ((L.length : Nat) : Int) = 3
  · refine go_yes (decide_eq_true c3) ?_
    match L, c3, mk with
    | [a, b, d], _, mk => exact ix_l 0 rfl rfl (ix_l 1 rfl rfl (ix_l 2 rfl rfl mk))
    | [], c2, _ => exact absurd c2 (by simp)
    | [_], c2, _ => exact absurd c2 (by simp)
    | [_, _], c2, _ => exact absurd c2 (by simp)
    | _ :: _ :: _ :: _ :: _, c2, _ => exact absurd c2 (by simp; omega)
  refine go_no (decide_eq_false c3) ?_
  ((try dsimp only); rw [u_seq]; (try simp only [u_asg, u_gN, u_ret, u_retN, u_skip, u_expr, u_ifs, u_c, u_op, u_neg, u_test, u_and, u_or, u_not, u_if, u_nil, u_cons, u_tup, u_lst, u_callP, u_call, u_b, u_chain, u_andV, u_addI, u_subI, u_mulI, u_divI, u_modI, u_powI, u_cmpI, u_eqI, u_eqS, u_eqB, u_abs, u_intI, u_intB, u_newT, u_newF, u_isN, u_notN, wVar, List.set_cons_zero, List.set_cons_succ, List.getElem?_cons_zero, List.getElem?_cons_succ, List.length_cons, List.length_nil, u_lc, u_for, u_r1, u_r2, u_r3, u_num, u_notV, u_yes, u_w0, u_w1, u_dput, u_get2, u_dget, u_prop, u_fld, u_setF, u_make, u_makeS, u_met, u_calO, u_orT, u_tupIt, u_dc, u_maxDd, u_dnew, u_tupi, ix_p0, ix_p1, wSl, woNone, woSome]))
  rw [u_lenL]
  try dsimp only
  rw [u_eqI]
  try dsimp only
  by_cases c4 : ((L.length : Nat) : Int) = 4
  · refine go_yes (decide_eq_true c4) ?_
    match L, c4, mk with
    | [a, b, d, e], _, mk => exact ix_l 0 rfl rfl (ix_l 1 rfl rfl (ix_l 2 rfl rfl (ix_l 3 rfl rfl mk)))
    | [], c2, _ => exact absurd c2 (by simp)
    | [_], c2, _ => exact absurd c2 (by simp)
    | [_, _], c2, _ => exact absurd c2 (by simp)
    | [_, _, _], c2, _ => exact absurd c2 (by simp)
    | _ :: _ :: _ :: _ :: _ :: _, c2, _ => exact absurd c2 (by simp; omega)
  refine go_no (decide_eq_false c4) ?_
  ((try dsimp only); rw [u_seq]; (try simp only [u_asg, u_gN, u_ret, u_retN, u_skip, u_expr, u_ifs, u_c, u_op, u_neg, u_test, u_and, u_or, u_not, u_if, u_nil, u_cons, u_tup, u_lst, u_callP, u_call, u_b, u_chain, u_andV, u_addI, u_subI, u_mulI, u_divI, u_modI, u_powI, u_cmpI, u_eqI, u_eqS, u_eqB, u_abs, u_intI, u_intB, u_newT, u_newF, u_isN, u_notN, wVar, List.set_cons_zero, List.set_cons_succ, List.getElem?_cons_zero, List.getElem?_cons_succ, List.length_cons, List.length_nil, u_lc, u_for, u_r1, u_r2, u_r3, u_num, u_notV, u_yes, u_w0, u_w1, u_dput, u_get2, u_dget, u_prop, u_fld, u_setF, u_make, u_makeS, u_met, u_calO, u_orT, u_tupIt, u_dc, u_maxDd, u_dnew, u_tupi, ix_p0, ix_p1, wSl, woNone, woSome]))
  rw [u_lenL]
  try dsimp only
  rw [u_eqI]
  try dsimp only
  by_cases c5 : ((L.length : Nat) : Int) = 5
  · refine go_yes (decide_eq_true c5) ?_
    match L, c5, mk with
    | [a, b, d, e, f], _, mk => exact ix_l 0 rfl rfl (ix_l 1 rfl rfl (ix_l 2 rfl rfl (ix_l 3 rfl rfl (ix_l 4 rfl rfl mk))))
    | [], c2, _ => exact absurd c2 (by simp)
    | [_], c2, _ => exact absurd c2 (by simp)
    | [_, _], c2, _ => exact absurd c2 (by simp)
    | [_, _, _], c2, _ => exact absurd c2 (by simp)
    | [_, _, _, _], c2, _ => exact absurd c2 (by simp)
    | _ :: _ :: _ :: _ :: _ :: _ :: _, c2, _ => exact absurd c2 (by simp; omega)
  refine go_no (decide_eq_false c5) ?_
  try simp only [u_asg, u_gN, u_ret, u_retN, u_skip, u_expr, u_ifs, u_c, u_op, u_neg, u_test, u_and, u_or, u_not, u_if, u_nil, u_cons, u_tup, u_lst, u_callP, u_call, u_b, u_chain, u_andV, u_addI, u_subI, u_mulI, u_divI, u_modI, u_powI, u_cmpI, u_eqI, u_eqS, u_eqB, u_abs, u_intI, u_intB, u_newT, u_newF, u_isN, u_notN, wVar, List.set_cons_zero, List.set_cons_succ, List.getElem?_cons_zero, List.getElem?_cons_succ, List.length_cons, List.length_nil, u_lc, u_for, u_r1, u_r2, u_r3, u_num, u_notV, u_yes, u_w0, u_w1, u_dput, u_get2, u_dget, u_prop, u_fld, u_setF, u_make, u_makeS, u_met, u_calO, u_orT, u_tupIt, u_dc, u_maxDd, u_dnew, u_tupi, ix_p0, ix_p1, wSl, woNone, woSome]
  have c6 : L.length = 6 := by omega
  match L, c6, mk with
  | [a, b, d, e, f, g], _, mk => exact ix_l 0 rfl rfl (ix_l 1 rfl rfl (ix_l 2 rfl rfl (ix_l 3 rfl rfl (ix_l 4 rfl rfl (ix_l 5 rfl rfl mk)))))
end K25
namespace K70
open PySem PySem.Spec L2 C8 DL
/-- rows that stand as a ledger does, few and near -/
structure Few (zs : Prs) (n : Nat) : Prop where
  st : Std zs
  le : zs.length ≤ n
  bd : ∀ e ∈ zs, 0 ≤ e.1 ∧ e.1 ≤ 1000
end K70
namespace K70
open PySem PySem.Spec L2 C8 DL
theorem Few.inR {zs : Prs} {n : Nat} (f : Few zs n) : InR zs := fun e he => by have := f.bd e he; omega
end K70
namespace K70
open PySem PySem.Spec L2 C8 DL
theorem merge_nodup : ∀ {es acc : Prs}, (es.map (·.1)).Nodup → (∀ e ∈ es, hasI acc e.1 = false) → (toK es).foldl (fun a e => putD a e.1 e.2) (toK acc) = toK (acc ++ es)
  | [], acc, _, _ => by simp [toK]
  | e :: es, acc, nd, hn => by
    rw [List.map_cons, List.nodup_cons] at nd
    have e1 : toK (e :: es) = (Sum.inl e.1, D.int e.2) :: toK es := rfl
    rw [e1, List.foldl_cons]
    show (toK es).foldl _ (putD (toK acc) (Sum.inl e.1) (.int e.2)) = _
    rw [putD_toK, put_new (hn e (List.mem_cons_self ..)), merge_nodup nd.2 (fun f hf => ?_)]
    · simp
    · have h1 := hn f (List.mem_cons_of_mem _ hf)
      have h2 : e.1 ≠ f.1 := fun z => nd.1 (by rw [z]; exact List.mem_map.mpr ⟨f, hf, rfl⟩)
      show (acc ++ [(e.1, e.2)]).any _ = false
      rw [List.any_append]
      have h1 : acc.any (fun x => decide (x.1 = f.1)) = false := h1
      rw [h1]
      simp [h2]
theorem mergeD_toK {es : Prs} (nd : (es.map (·.1)).Nodup) : mergeD (toK es) = toK es := by
  have := merge_nodup (acc := []) nd (fun _ _ => rfl)
  exact this
theorem dict_of {es : Prs} {h : AH} {Q : KD} (nd : (es.map (·.1)).Nodup) (q : ∀ p, h p = none → Q (.ref p) (up h p (.dK (toK es)))) : dDictP true [.tpl (es.map pairD)] h Q := by
  refine ⟨toK es, ?_, ?_⟩
  · unfold toK; rw [List.map_map]; rfl
  · rw [if_pos rfl, mergeD_toK nd]; exact q
end K70
namespace F4
open PySem PySem.Spec L2 C8 DL PK
def inR (lm : Bool) : Ac → WSt → List Row
  | .bare _, _ => []
  | .write _, _ => []
  | .fork b, s => rwB lm b s
  | .rep _ _, _ => []
end F4
namespace F4
open PySem PySem.Spec L2 C8 DL PK
/-- the heap while a pass goes on: all of h0 but s and r stands -/
structure Pas (h0 : AH) (s r : Addr) (st : WSt) (rows : List Row) (h : AH) : Prop where
  old : ∀ c o, h0 c = some o → c ≠ s → c ≠ r → h c = some o
  hs : h s = some (.lst (stL st))
  hr : h r = some (.lst (rows.map rowD5))
theorem Pas.row {h0 h : AH} {s r : Addr} {st : WSt} {rows rows' : List Row} (P : Pas h0 s r st rows h) (ne : s ≠ r) : Pas h0 s r st rows' (up h r (.lst (rows'.map rowD5))) :=
  ⟨fun c o e c1 c2 => by rw [up_ne c2]; exact P.old c o e c1 c2, by rw [up_ne ne]; exact P.hs, up_same⟩
theorem Pas.sub {h0 h : AH} {s r : Addr} {st : WSt} {rows : List Row} (P : Pas h0 s r st rows h) : Sub (up (up h0 s (.lst (stL st))) r (.lst (rows.map rowD5))) h := fun c o e => by
  by_cases c1 : c = r
  · subst c1; rw [up_same] at e; cases e; exact P.hr
  · rw [up_ne c1] at e
    by_cases c2 : c = s
    · subst c2; rw [up_same] at e; cases e; exact P.hs
    · rw [up_ne c2] at e; exact P.old c o e c2 c1
end F4
namespace F4
open PySem PySem.Spec L2 C8 DL PK
/-! sums over rows -/
end F4
namespace F4
open PySem PySem.Spec L2 C8 DL PK
end F4
namespace DL
open PySem PySem.Spec L2 C8 PyProof.Rows
/-! ### C(k = v, ..): a new instance, all by keywords -/
end DL
namespace K30
open PySem PySem.Spec L2 C8 DL PK F4 PL
theorem tail_lt : ∀ {gs : Prs}, gs.Pairwise (fun a b => a.1 < b.1) → ∀ e ∈ gs, e.1 < tailI gs
  | [], _, e, h => by cases h
  | [x], _, e, h => by
    have : e = x := by simpa using h
    subst this; show e.1 < e.1 + 1; omega
  | x :: y :: gs, pw, e, h => by
    rw [List.pairwise_cons] at pw
    have e1 : tailI (x :: y :: gs) = tailI (y :: gs) := by unfold tailI; rw [List.getLast?_cons_cons]
    rw [e1]
    rcases List.mem_cons.mp h with rfl | h
    · have h1 := pw.1 y (List.mem_cons_self ..)
      have h2 := tail_lt pw.2 y (List.mem_cons_self ..)
      omega
    · exact tail_lt pw.2 e h
end K30
namespace DL
open PySem PySem.Spec L2 C8
/-! ### what the numbers are -/
def tlast (es : List Int) : Int := es.getD (es.length - 1) 0
def tgap (es : List Int) (k : Nat) : Int := tlast es - es.getD k 0
def tbad (es : List Int) (k : Nat) : Bool := !decide (tgap es k % ((k : Int) + 1) = 0)
def brk (es : List Int) : List Int := (List.range es.length).filterMap fun k => if tbad es k = true then some ((k : Int) + 1) else none
/-! ### the quotients: found from the last place down -/
end DL
namespace DL
open PySem PySem.Spec L2 C8
/-! ### tables: the ledger that a table tells -/
def rise (rs : List Int) : List Int := (List.range (rs.length - 1)).filterMap fun (k : Nat) => if rs.getD k 0 < rs.getD (k + 1) 0 then some ((k : Int) + 1) else none
/-! ### the refusals -/
end DL
namespace DL
open PySem PySem.Spec L2 C8
/-! ### the judge's defs -/
end DL
namespace DL
open PySem PySem.Spec L2 C8
/-! ### the package's judge -/
section
variable {rs : List Int} {k : Nat} {h : AH} {Q : KD}
theorem t0 {es : List Int} (h1 : 1 ≤ es.length) : dIx (tpI es) (.int 0) h Q = Q (.int (es.getD 0 0)) h := u_ixTd (at_nth (es := es) (k := 0) (by omega))
end
end DL
namespace DL
open PySem PySem.Spec L2 C8
/-! ### the laws' own judge -/
/-! the quotients, kept in a dict -/
/-- the dict holds rs from the place i on -/
def Holds (ds : Prs) (rs : List Int) (i n : Nat) : Prop := ∀ k, i ≤ k → k < n → hasI ds ((k : Int) + 1) = true ∧ getI ds ((k : Int) + 1) = rs.getD k 0
end DL
namespace DL
open PySem PySem.Spec L2 C8
/-! refusals -/
end DL
namespace DL
open PySem PySem.Spec L2 C8
/-! ### the laws' tables -/
end DL
namespace DL
open PySem PySem.Spec L2 C8
/-! ### repr of what is judged -/
theorem rp_str {s : Str} {n : Nat} (h : (PyData.str s).shown.length ≤ n) : Rp (.str s) 0 n := ⟨rfl, by rw [pd, PyData.showable], by rw [pd, PyData.depth]; exact Nat.le_refl _, by rw [pd]; exact h⟩
/-! ### near tables: how great the quotients are -/
end DL
namespace K25
open PySem PySem.Spec L2 C8 DL PK PL PQ PN PB F4 PR
def gtD (gs : Prs) : D := match gs.getLast? with
  | some e => .int e.1
  | none => .non
theorem gt_max {gs : Prs} (sd : Std gs) {m : Int} (h1 : m ∈ gs.map (·.1)) (h2 : ∀ y ∈ gs.map (·.1), y ≤ m) : gtD gs = .int m := by
  obtain ⟨f, hf, rfl⟩ := List.mem_map.mp h1
  have t := K30.tail_lt sd.1 f hf
  unfold tailI at t
  unfold gtD
  cases e : gs.getLast? with
  | none => rw [List.getLast?_eq_none_iff] at e; subst e; cases hf
  | some g =>
    rw [e] at t
    have := h2 g.1 (List.mem_map_of_mem (List.mem_of_getLast? e))
    have t : f.1 < g.1 + 1 := t
    have : g.1 ≤ f.1 := this
    have e2 : g.1 = f.1 := by omega
    show D.int g.1 = D.int f.1
    rw [e2]
theorem at_neg {l : List D} {x : D} : atI (l ++ [x]) (-1) = some x := by
  unfold atI ixN
  simp only [List.length_append, List.length_cons, List.length_nil]
  rw [if_neg (by decide), if_pos (by omega)]
  have e : ((-1 : Int) + ((l.length + (0 + 1) : Nat) : Int)).toNat = l.length := by omega
  rw [e]
  simp
theorem lenP {xs : List D} {h : AH} {Q : KD} (q : Q (.int (xs.length : Nat)) h) : dLen [.tpl xs] h Q := by
  simp [dLen, lenD, cur]; exact q
theorem go_rp {x : D} {k n : Nat} {h : AH} {Q : KD} (r : Rp x k n) (hk : k ≤ 60) (hn : n ≤ 16000000) (c : cur h x = x) (q : Q (.str (pd x).shown) h) : dRepr [x] h Q :=
  ⟨x, rfl, by rw [c]; exact r.da, by rw [c]; exact r.sh, by rw [c]; exact Nat.le_trans r.de hk, by rw [c]; exact Nat.le_trans r.le (Nat.le_trans hn (by decide)), by rw [c]; exact q⟩
theorem Rp.of {x y : D} {k n : Nat} (r : Rp x k n) (d : dat y = true) (e : pd y = pd x) : Rp y k n := ⟨d, by rw [e]; exact r.sh, by rw [e]; exact r.de, by rw [e]; exact r.le⟩
theorem rp_pairs {gs : Prs} (ir : InR gs) (ln : gs.length ≤ 6) (sm : ∀ e ∈ gs, e.2.natAbs < 2 ^ 110) : Rp (.tup (gs.map pairD)) 2 3000 := by
  refine (rp_tup (k := 1) (n := 300) (l := 6) (fun x hx => ?_) (by rw [List.length_map]; exact ln)).up (by decide) (by decide)
  obtain ⟨e, he, rfl⟩ := List.mem_map.mp hx
  have k := ir e he
  refine (rp_tup (k := 0) (n := 111) (l := 2) (fun y hy => ?_) (by simp)).up (by decide) (by decide)
  have : y = .int e.1 ∨ y = .int e.2 := by simpa using hy
  rcases this with rfl | rfl
  · exact (rp_int (j := 30) (by decide) (by decide) (by omega)).up (by decide) (by decide)
  · exact rp_int (by decide) (by decide) (sm e he)
theorem rp_gt {gs : Prs} (ir : InR gs) : Rp (gtD gs) 0 40 := by
  unfold gtD
  cases e : gs.getLast? with
  | none => exact rp_non.up (by decide) (by decide)
  | some g =>
    have k := ir g (List.mem_of_getLast? e)
    exact (rp_int (j := 30) (by decide) (by decide) (by omega)).up (by decide) (by decide)
theorem rp_lt {n : Nat} (h : n ≤ 6) : Rp (.str (lText n)) 0 40 := by
  rcases (show n = 0 ∨ n = 1 ∨ n = 2 ∨ n = 3 ∨ n = 4 ∨ n = 5 ∨ n = 6 by omega) with rfl | rfl | rfl | rfl | rfl | rfl | rfl <;> exact rp_str (by rw [PyData.shown]; decide +kernel)
theorem u_dnewF {ρ : EnvD} {h : AH} {Q : KD} {X : KX} : wDnewF ρ h Q X = Q (.dK []) h := rfl
theorem p__law_told_right (z : Ad) : ∀ ds h Q X, S__law_told_right z ds h Q X → w__law_told_right z (endsD Q X) (startD 8 ds) h := by
  rintro ds h Q X ⟨gs, rfl, sd, ir, ln, sm, q⟩
  show w__law_told_right z (endsD Q X) [some (ledD z.Ledger gs), some (.tpl (gs.map pairD)), none, none, none, none, none, none] h
  have q := fin_of q
  unfold w__law_told_right
  refine seq_go (fun ρ h' => ρ = [some (ledD z.Ledger gs), some (.tpl (gs.map pairD)), some (.lst [.tup (gs.map pairD), gtD gs, .int (gs.length : Nat), .bl (decide (gs.length ≠ 0)), .str (lText gs.length)]), none, none, none, none, none] ∧ h = h') (fun K k => ?_) ?_
  · simp only [u_asg, u_gN, u_ret, u_retN, u_skip, u_expr, u_ifs, u_c, u_op, u_neg, u_test, u_and, u_or, u_not, u_if, u_nil, u_cons, u_tup, u_lst, u_callP, u_call, u_b, u_chain, u_andV, u_addI, u_subI, u_mulI, u_divI, u_modI, u_powI, u_cmpI, u_eqI, u_eqS, u_eqB, u_abs, u_intI, u_intB, u_newT, u_newF, u_isN, u_notN, wVar, List.set_cons_zero, List.set_cons_succ, List.getElem?_cons_zero, List.getElem?_cons_succ, List.length_cons, List.length_nil, u_lc, u_for, u_r1, u_r2, u_r3, u_num, u_notV, u_yes, u_w0, u_w1, u_dput, u_get2, u_dget, u_prop, u_fld, u_setF, u_make, u_makeS, u_met, u_calO, u_orT, u_tupIt, u_dc, u_maxDd, u_dnew, u_tupi, ix_p0, ix_p1, wSl, woNone, woSome]
    have rest : ∀ x, x = gtD gs → (dLenO z.Ledger (PL.S_Ledger___len__ z) [ledD z.Ledger gs] h fun x_2 h1 =>
                dBoolO z.Ledger (PL.S_Ledger___len__ z) [ledD z.Ledger gs] h1 fun x_3 h1 =>
                  dReprO z.Ledger (S_Ledger___repr__ z) [ledD z.Ledger gs] h1 fun x_4 h1 =>
                    0 + 1 + 1 + 1 + 1 + 1 ≤ sizeLine ∧
                      K [some (ledD z.Ledger gs), some (D.tpl (List.map pairD gs)), some (D.lst [.tup (gs.map pairD), x, x_2, x_3, x_4]), none, none, none, none, none] h1) := fun x e => by
      subst e
      have lt : gs.length < 2 ^ 62 := Nat.lt_of_le_of_lt ln (by decide)
      rw [u_lenO]
      refine ⟨ledD_isI, gs, rfl, gs.length, rfl, lt, ?_⟩
      rw [u_boolO]
      refine ⟨ledD_isI, gs, rfl, gs.length, rfl, lt, ?_⟩
      rw [u_reprO]
      exact ⟨ledD_isI, gs, rfl, by omega, _, rfl, by decide, k _ _ ⟨rfl, rfl⟩⟩
    exact ⟨ledD_isI, gs, rfl, ledD_isI, gs, rfl, fun e => rest _ (by rw [e]; rfl), fun m h1 h2 => rest _ (gt_max sd h1 h2).symm⟩
  rintro _ _ ⟨rfl, rfl⟩
  refine seq_go (fun ρ h' => ρ = [some (ledD z.Ledger gs), some (.tpl (gs.map pairD)), some (.lst [.tup (gs.map pairD), gtD gs, .int (gs.length : Nat), .bl (decide (gs.length ≠ 0)), .str (lText gs.length)]), some (gtD gs), none, none, none, none] ∧ h = h') (fun K k => ?_) ?_
  · simp only [u_asg, u_gN, u_ret, u_retN, u_skip, u_expr, u_ifs, u_c, u_op, u_neg, u_test, u_and, u_or, u_not, u_if, u_nil, u_cons, u_tup, u_lst, u_callP, u_call, u_b, u_chain, u_andV, u_addI, u_subI, u_mulI, u_divI, u_modI, u_powI, u_cmpI, u_eqI, u_eqS, u_eqB, u_abs, u_intI, u_intB, u_newT, u_newF, u_isN, u_notN, wVar, List.set_cons_zero, List.set_cons_succ, List.getElem?_cons_zero, List.getElem?_cons_succ, List.length_cons, List.length_nil, u_lc, u_for, u_r1, u_r2, u_r3, u_num, u_notV, u_yes, u_w0, u_w1, u_dput, u_get2, u_dget, u_prop, u_fld, u_setF, u_make, u_makeS, u_met, u_calO, u_orT, u_tupIt, u_dc, u_maxDd, u_dnew, u_tupi, ix_p0, ix_p1, wSl, woNone, woSome]
    refine ⟨Nat.zero_le _, rfl, _, .inr rfl, ?_⟩
    have gg : ∀ x, x = gtD gs → K [some (ledD z.Ledger gs), some (.tpl (gs.map pairD)), some (.lst [.tup (gs.map pairD), gtD gs, .int (gs.length : Nat), .bl (decide (gs.length ≠ 0)), .str (lText gs.length)]), some x, none, none, none, none] h := fun x e => by subst e; exact k _ _ ⟨rfl, rfl⟩
    rcases List.eq_nil_or_concat gs with e | ⟨l, a, e⟩
    · exact go_no (by rw [e]; rfl) (gg _ (by rw [e]; rfl))
    · refine go_yes (by rw [e]; simp) ⟨_, pairD a, rfl, ?_, ix_t 0 rfl rfl (gg _ ?_)⟩
      · rw [e, List.concat_eq_append, List.map_append]; exact at_neg
      · rw [e, List.concat_eq_append]; simp [gtD]
  rintro _ _ ⟨rfl, rfl⟩
  refine seq_go (fun ρ h' => ρ = [some (ledD z.Ledger gs), some (.tpl (gs.map pairD)), some (.lst [.tup (gs.map pairD), gtD gs, .int (gs.length : Nat), .bl (decide (gs.length ≠ 0)), .str (lText gs.length)]), some (gtD gs), none, none, none, none] ∧ h = h') (fun K k => ?_) ?_
  · simp only [u_asg, u_gN, u_ret, u_retN, u_skip, u_expr, u_ifs, u_c, u_op, u_neg, u_test, u_and, u_or, u_not, u_if, u_nil, u_cons, u_tup, u_lst, u_callP, u_call, u_b, u_chain, u_andV, u_addI, u_subI, u_mulI, u_divI, u_modI, u_powI, u_cmpI, u_eqI, u_eqS, u_eqB, u_abs, u_intI, u_intB, u_newT, u_newF, u_isN, u_notN, wVar, List.set_cons_zero, List.set_cons_succ, List.getElem?_cons_zero, List.getElem?_cons_succ, List.length_cons, List.length_nil, u_lc, u_for, u_r1, u_r2, u_r3, u_num, u_notV, u_yes, u_w0, u_w1, u_dput, u_get2, u_dget, u_prop, u_fld, u_setF, u_make, u_makeS, u_met, u_calO, u_orT, u_tupIt, u_dc, u_maxDd, u_dnew, u_tupi, ix_p0, ix_p1, wSl, woNone, woSome]
    have rT : Rp (.lst [.tup (gs.map pairD), gtD gs, .int (gs.length : Nat), .bl (decide (gs.length ≠ 0)), .str (lText gs.length)]) 3 (2 + 5 * (3000 + 2)) := by
      refine rp_lst (k := 2) (n := 3000) (l := 5) (fun x hx => ?_) (by simp)
      have : x = .tup (gs.map pairD) ∨ x = gtD gs ∨ x = .int (gs.length : Nat) ∨ x = .bl (decide (gs.length ≠ 0)) ∨ x = .str (lText gs.length) := by simpa using hx
      rcases this with rfl | rfl | rfl | rfl | rfl
      · exact rp_pairs ir ln sm
      · exact (rp_gt ir).up (by decide) (by decide)
      · exact (rp_int (j := 20) (by decide) (by decide) (by omega)).up (by decide) (by decide)
      · exact (rp_bl _).up (by decide) (by decide)
      · exact (rp_lt ln).up (by decide) (by decide)
    refine go_rp rT (by decide) (by decide) rfl (lenP ?_)
    rw [List.length_map]
    refine ⟨Nat.zero_le _, rfl, _, .inr rfl, lenP ?_⟩
    rw [List.length_map]
    have sh := num_sho (n := gs.length) (by omega)
    have n1 : (Str.ofString "Ledger(").length ≤ 100 := by decide +kernel
    have n3 : (Str.ofString " rows)").length ≤ 100 := by decide +kernel
    have m1 := sh.2
    refine ⟨_, rfl, sh.1, ?_⟩
    refine ⟨sz_t (by omega), sz_t (by rw [Str.length_append]; omega), by decide, ?_⟩
    have eb : (!(gs.map pairD).isEmpty) = decide (gs.length ≠ 0) := by cases gs <;> simp
    rw [eb]
    have rT2 : Rp (.lst [.tpl (gs.map pairD), gtD gs, .int (gs.length : Nat), .bl (decide (gs.length ≠ 0)), .str (lText gs.length)]) 3 (2 + 5 * (3000 + 2)) := Rp.of rT rT.da rfl
    refine go_rp rT2 (by decide) (by decide) rfl ?_
    show dEq _ (.str _) (.str (pd (.lst [.tup (gs.map pairD), gtD gs, .int (gs.length : Nat), .bl (decide (gs.length ≠ 0)), .str (lText gs.length)])).shown) _ _
    rw [u_eqS, decide_eq_true rfl]
    exact go_no rfl (k _ _ ⟨rfl, rfl⟩)
  rintro _ _ ⟨rfl, rfl⟩
  ((try dsimp only); rw [u_seq]; (try simp only [u_asg, u_gN, u_ret, u_retN, u_skip, u_expr, u_ifs, u_c, u_op, u_neg, u_test, u_and, u_or, u_not, u_if, u_nil, u_cons, u_tup, u_lst, u_callP, u_call, u_b, u_chain, u_andV, u_addI, u_subI, u_mulI, u_divI, u_modI, u_powI, u_cmpI, u_eqI, u_eqS, u_eqB, u_abs, u_intI, u_intB, u_newT, u_newF, u_isN, u_notN, wVar, List.set_cons_zero, List.set_cons_succ, List.getElem?_cons_zero, List.getElem?_cons_succ, List.length_cons, List.length_nil, u_lc, u_for, u_r1, u_r2, u_r3, u_num, u_notV, u_yes, u_w0, u_w1, u_dput, u_get2, u_dget, u_prop, u_fld, u_setF, u_make, u_makeS, u_met, u_calO, u_orT, u_tupIt, u_dc, u_maxDd, u_dnew, u_tupi, ix_p0, ix_p1, wSl, woNone, woSome]))
  refine K70.dict_of (pw_nodup sd.1) fun p hp => ?_
  have hp1 : up h p (.dK (toK gs)) p = some (.dK (toK gs)) := if_pos rfl
  have q : fin Q (.bl true) (up h p (.dK (toK gs))) := fin_new hp (by assumption)
  generalize hg : up h p (.dK (toK gs)) = g at hp1 q
  clear hp hg
  ((try dsimp only); rw [u_seq]; (try simp only [u_asg, u_gN, u_ret, u_retN, u_skip, u_expr, u_ifs, u_c, u_op, u_neg, u_test, u_and, u_or, u_not, u_if, u_nil, u_cons, u_tup, u_lst, u_callP, u_call, u_b, u_chain, u_andV, u_addI, u_subI, u_mulI, u_divI, u_modI, u_powI, u_cmpI, u_eqI, u_eqS, u_eqB, u_abs, u_intI, u_intB, u_newT, u_newF, u_isN, u_notN, wVar, List.set_cons_zero, List.set_cons_succ, List.getElem?_cons_zero, List.getElem?_cons_succ, List.length_cons, List.length_nil, u_lc, u_for, u_r1, u_r2, u_r3, u_num, u_notV, u_yes, u_w0, u_w1, u_dput, u_get2, u_dget, u_prop, u_fld, u_setF, u_make, u_makeS, u_met, u_calO, u_orT, u_tupIt, u_dc, u_maxDd, u_dnew, u_tupi, ix_p0, ix_p1, wSl, woNone, woSome]))
  rw [u_seqi, u_op]
  rw [u_lst, u_cons, u_c, u_cons, u_c, u_cons, u_c, u_cons, u_c, u_cons, u_neg, u_c]
  dsimp only
  rw [u_cons, u_c, u_cons, u_op, u_c, u_c, u_powI]
  refine ⟨⟨by decide, by decide, by decide⟩, ?_⟩
  rw [u_cons, u_op, u_op, u_c, u_c, u_powI]
  refine ⟨⟨by decide, by decide, by decide⟩, ?_⟩
  rw [u_c, u_addI, u_cons, u_op, u_c, u_c, u_powI]
  refine ⟨⟨by decide, by decide, by decide⟩, ?_⟩
  rw [u_nil]
  refine ⟨by decide, ?_⟩
  rw [u_newF, u_b, u_cons, u_var rfl, u_nil]
  refine ⟨_, toK gs, rfl, dk_ref hp1, ?_⟩
  rw [u_newF]
  refine ⟨_, _, rfl, rfl, ?_, ?_⟩
  · rw [List.length_map, toK, List.length_map]
    exact Nat.le_trans (Nat.add_le_add_left ln _) (by decide)
  rw [u_newF]
  refine loop_go (fun _ ρ h' => h' = g ∧ ∃ y, ρ = [some (ledD z.Ledger gs), some (.tpl (gs.map pairD)), some (.lst [.tup (gs.map pairD), gtD gs, .int (gs.length : Nat), .bl (decide (gs.length ≠ 0)), .str (lText gs.length)]), some (gtD gs), some (.ref p), y, none, none]) ⟨rfl, _, rfl⟩ (fun _ _ _ _ => trivial) (fun i x ρ h' K hx => ?_) (fun ρ h' => ?_)
  · rintro ⟨rfl, y, rfl⟩ k
    obtain ⟨j, rfl⟩ : ∃ j : Int, x = .int j := by
      have := List.mem_of_getElem? hx
      rcases List.mem_append.mp this with m | m
      · simp only [List.mem_cons, List.not_mem_nil, or_false] at m
        rcases m with m | m | m | m | m | m | m | m | m <;> exact ⟨_, m⟩
      · rw [toK, List.map_map] at m
        obtain ⟨e, _, rfl⟩ := List.mem_map.mp m
        exact ⟨_, rfl⟩
    clear hx
    simp only [u_asg, u_gN, u_ret, u_retN, u_skip, u_expr, u_ifs, u_c, u_op, u_neg, u_test, u_and, u_or, u_not, u_if, u_nil, u_cons, u_tup, u_lst, u_callP, u_call, u_b, u_chain, u_andV, u_addI, u_subI, u_mulI, u_divI, u_modI, u_powI, u_cmpI, u_eqI, u_eqS, u_eqB, u_abs, u_intI, u_intB, u_newT, u_newF, u_isN, u_notN, wVar, List.set_cons_zero, List.set_cons_succ, List.getElem?_cons_zero, List.getElem?_cons_succ, List.length_cons, List.length_nil, u_lc, u_for, u_r1, u_r2, u_r3, u_num, u_notV, u_yes, u_w0, u_w1, u_dput, u_get2, u_dget, u_prop, u_fld, u_setF, u_make, u_makeS, u_met, u_calO, u_orT, u_tupIt, u_dc, u_maxDd, u_dnew, u_tupi, ix_p0, ix_p1, wSl, woNone, woSome]
    have bj : (getI gs j).natAbs < 2 ^ 110 := by
      cases c : hasI gs j with
      | false => rw [getI_no c]; decide
      | true =>
        obtain ⟨v, hv⟩ := hasI_iff.mp c
        rw [getI_mem (pw_nodup sd.1) hv]
        exact sm _ hv
    have ri : Rp (.int (getI gs j)) 0 111 := rp_int (by decide) (by decide) bj
    refine ⟨ledD_isI, gs, j, rfl, ?_⟩
    refine go_rp ri (by decide) (by decide) rfl ⟨by rw [dk_ref hp1]; rfl, toK gs, Sum.inl j, dk_ref hp1, rfl, ?_⟩
    rw [val_getD]
    refine go_rp ri (by decide) (by decide) rfl ?_
    rw [u_eqS, decide_eq_true rfl]
    refine go_no rfl ?_
    refine ⟨ledD_isI, gs, .int j, "int", rfl, rfl, _, rfl, toK gs, Sum.inl j, dk_ref hp1, rfl, ?_⟩
    rw [has_toK]
    show dEq _ (.bl (hasI gs j)) (.bl (hasI gs j)) _ _
    rw [u_eqB, decide_eq_true rfl]
    exact go_no rfl (k _ _ ⟨rfl, _, rfl⟩)
  rintro ⟨rfl, y, rfl⟩
  ((try dsimp only); rw [u_seq]; (try simp only [u_asg, u_gN, u_ret, u_retN, u_skip, u_expr, u_ifs, u_c, u_op, u_neg, u_test, u_and, u_or, u_not, u_if, u_nil, u_cons, u_tup, u_lst, u_callP, u_call, u_b, u_chain, u_andV, u_addI, u_subI, u_mulI, u_divI, u_modI, u_powI, u_cmpI, u_eqI, u_eqS, u_eqB, u_abs, u_intI, u_intB, u_newT, u_newF, u_isN, u_notN, wVar, List.set_cons_zero, List.set_cons_succ, List.getElem?_cons_zero, List.getElem?_cons_succ, List.length_cons, List.length_nil, u_lc, u_for, u_r1, u_r2, u_r3, u_num, u_notV, u_yes, u_w0, u_w1, u_dput, u_get2, u_dget, u_prop, u_fld, u_setF, u_make, u_makeS, u_met, u_calO, u_orT, u_tupIt, u_dc, u_maxDd, u_dnew, u_tupi, ix_p0, ix_p1, wSl, woNone, woSome]))
  refine ⟨by decide, by decide, ?_⟩
  rw [u_dnewF]
  refine ⟨by decide, by decide, by decide, ?_⟩
  rw [u_seqi, u_var rfl]
  intro a ha
  refine comp_go (fun _ g => g = up h' a (.lst [])) rfl (fun _ _ _ => trivial) (fun i x g K hx e k => ?_) (fun g e => ?_)
  · subst e
    have := List.mem_of_getElem? hx
    have ⟨t, ty, ni⟩ : ∃ t, tyD (up h' a (.lst [])) x = some t ∧ ∀ j, x ≠ .int j := by
      simp only [List.mem_cons, List.not_mem_nil, or_false] at this
      rcases this with rfl | rfl | rfl | rfl | rfl | rfl | rfl | rfl | rfl <;> exact ⟨_, rfl, fun _ h => by cases h⟩
    clear hx this
    simp only [u_asg, u_gN, u_ret, u_retN, u_skip, u_expr, u_ifs, u_c, u_op, u_neg, u_test, u_and, u_or, u_not, u_if, u_nil, u_cons, u_tup, u_lst, u_callP, u_call, u_b, u_chain, u_andV, u_addI, u_subI, u_mulI, u_divI, u_modI, u_powI, u_cmpI, u_eqI, u_eqS, u_eqB, u_abs, u_intI, u_intB, u_newT, u_newF, u_isN, u_notN, wVar, List.set_cons_zero, List.set_cons_succ, List.getElem?_cons_zero, List.getElem?_cons_succ, List.length_cons, List.length_nil, u_lc, u_for, u_r1, u_r2, u_r3, u_num, u_notV, u_yes, u_w0, u_w1, u_dput, u_get2, u_dget, u_prop, u_fld, u_setF, u_make, u_makeS, u_met, u_calO, u_orT, u_tupIt, u_dc, u_maxDd, u_dnew, u_tupi, ix_p0, ix_p1, wSl, woNone, woSome]
    refine ⟨ledD_isI, gs, x, t, rfl, ty, _, rfl, ?_⟩
    cases x with
    | int j => exact absurd rfl (ni j)
    | _ => exact k _ rfl
  subst e
  refine ⟨[], up_same, ?_⟩
  rw [if_neg (by decide)]
  refine ⟨Nat.zero_le _, [], rfl, ?_⟩
  rw [rm_up, rm_none ha]
  exact q
end K25
namespace K25
open PySem PySem.Spec L2 C8 DL PK PL PQ PN PB F4 PR
theorem amt_rev : ∀ (a : Prs) (k : Int), amt a.reverse k = amt a k
  | [], k => rfl
  | e :: a, k => by
    rw [List.reverse_cons, amt_append, amt_rev a, amt_cons, amt_cons, show amt [] k = 0 from rfl]
    omega
theorem u_rev {m : Bool} {wo : WE} {ρ : EnvD} {h : AH} {Q : KD} {X : KX} : wRev m wo ρ h Q X = wo ρ h (fun x h1 => ∃ xs, lstOf h1 x = some xs ∧ newL m xs.reverse h1 Q) X := rfl
theorem oth_eq {z : Ad} {es : Prs} {y : D} {h : AH} {Q : KD} {f : Bool → Bool} (s1 : Std es) {n : String} (e : tyD h y = some n) (q : Q (.bl (f false)) h) :
    dOwnA z.Ledger (S_Ledger___eq__ z) f (ledD z.Ledger es) y h Q := ⟨ledD_isI, .inr ⟨n, e⟩, es, _, rfl, s1, .inr ⟨n, e, _, rfl, q⟩⟩
theorem own_eq {z : Ad} {es fs : Prs} {h : AH} {Q : KD} {f : Bool → Bool} {b : Bool} (s1 : Std es) (s2 : Std fs) (e : decide (es = fs) = b) (q : Q (.bl (f b)) h) :
    dOwnC z.Ledger (S_Ledger___eq__ z) f (ledD z.Ledger es) (ledD z.Ledger fs) h Q := ⟨ledD_isI, ledD_isI, es, _, rfl, s1, .inl ⟨fs, rfl, s2, _, rfl, by rw [e]; exact q⟩⟩
theorem led_more {es e3 e4 : Prs} {n : Int} (s : Std es) (l3 : Led e3 (amt [(n, 1)])) (l4 : Led e4 fun k => amt e3 k + amt es k) : decide (es = e4) = false := by
  refine decide_eq_false fun e => ?_
  have := congrFun l4.eqA n
  have e1 : amt [(n, 1)] n = 1 := by simp [amt]
  rw [← e, l3.eqA, e1] at this
  omega
theorem inr_one {n : Int} (h : 0 ≤ n) (h2 : n ≤ 10) : InR [(n, 1)] := fun e he => by
  obtain rfl : e = (n, 1) := by simpa using he
  exact ⟨h, Int.le_trans h2 (by decide)⟩
theorem mk_gk {z : Ad} {rows : Prs} {tail L : List D} {h : AH} {a : Addr} {K : KD} {X : KX} (e : L = rows.map pairD ++ tail) (ha : h a = none) (ir : InR rows) (ln : rows.length + tail.length ≤ 100) (m : Mkd z rows tail h (∀ gs, Led gs (amt rows) → InR gs → gs.length ≤ rows.length → K .non (up h a (.ins z.Ledger [("amounts", .dK (toK gs))]))) X) :
    starS 1 (S_Ledger___init__ z) (D.ref a :: L) (up h a (AO.ins z.Ledger [])) K X := by
  subst e
  exact ⟨by simp, sz_t (by simp; omega), a, rows, tail, rfl, up_same, ir, by omega, m.imp (fun ⟨e, q⟩ => ⟨e, fun es l1 l2 => by
    rw [up_up]
    exact q es l1 (l1.inR ir) l2⟩) fun ⟨x, t, e, o, k⟩ => ⟨x, t, e, o, fun h' s => k h' fun b u hb => s b u (sub_up ha b u hb)⟩⟩
theorem p__law_alike_right (z : Ad) : ∀ ds h Q X, S__law_alike_right z ds h Q X → w__law_alike_right z (endsD Q X) (startD 6 ds) h := by
  rintro ds h Q X ⟨rows, gs, rfl, rw0, l, ln, ir, q⟩
  show w__law_alike_right z (endsD Q X) [some (ledD z.Ledger gs), some (.lst (rows.map pairD)), none, none, none, none] h
  have q := fin_of q
  have q : Q (.bl true) h := by assumption
  have s1 := l.std
  unfold w__law_alike_right
  ((try dsimp only); rw [u_seq]; (try simp only [u_asg, u_gN, u_ret, u_retN, u_skip, u_expr, u_ifs, u_c, u_op, u_neg, u_test, u_and, u_or, u_not, u_if, u_nil, u_cons, u_tup, u_lst, u_callP, u_call, u_b, u_chain, u_andV, u_addI, u_subI, u_mulI, u_divI, u_modI, u_powI, u_cmpI, u_eqI, u_eqS, u_eqB, u_abs, u_intI, u_intB, u_newT, u_newF, u_isN, u_notN, wVar, List.set_cons_zero, List.set_cons_succ, List.getElem?_cons_zero, List.getElem?_cons_succ, List.length_cons, List.length_nil, u_lc, u_for, u_r1, u_r2, u_r3, u_num, u_notV, u_yes, u_w0, u_w1, u_dput, u_get2, u_dget, u_prop, u_fld, u_setF, u_make, u_makeS, u_met, u_calO, u_orT, u_tupIt, u_dc, u_maxDd, u_dnew, u_tupi, ix_p0, ix_p1, wSl, woNone, woSome]))
  refine ⟨trivial, rows, rfl, by have := rw0.2; omega, fun es l2 n2 => ?_⟩
  obtain rfl : es = gs := l2.unique l
  try dsimp only
  ((try dsimp only); rw [u_seq]; (try simp only [u_asg, u_gN, u_ret, u_retN, u_skip, u_expr, u_ifs, u_c, u_op, u_neg, u_test, u_and, u_or, u_not, u_if, u_nil, u_cons, u_tup, u_lst, u_callP, u_call, u_b, u_chain, u_andV, u_addI, u_subI, u_mulI, u_divI, u_modI, u_powI, u_cmpI, u_eqI, u_eqS, u_eqB, u_abs, u_intI, u_intB, u_newT, u_newF, u_isN, u_notN, wVar, List.set_cons_zero, List.set_cons_succ, List.getElem?_cons_zero, List.getElem?_cons_succ, List.length_cons, List.length_nil, u_lc, u_for, u_r1, u_r2, u_r3, u_num, u_notV, u_yes, u_w0, u_w1, u_dput, u_get2, u_dget, u_prop, u_fld, u_setF, u_make, u_makeS, u_met, u_calO, u_orT, u_tupIt, u_dc, u_maxDd, u_dnew, u_tupi, ix_p0, ix_p1, wSl, woNone, woSome]))
  rw [u_rev, u_var rfl]
  refine ⟨_, rfl, ?_⟩
  rw [u_newF, ← List.map_reverse]
  refine ⟨trivial, rows.reverse, [], by rw [List.append_nil], fun e he => rw0.1 e (List.mem_reverse.mp he), by simp; exact rw0.2, .inl ⟨rfl, fun es3 l3 _ _ => ?_⟩⟩
  obtain rfl : es3 = es := (l3.of_amt (amt_rev rows)).unique l
  clear l2 l3
  ((try dsimp only); rw [u_seq]; (try simp only [u_asg, u_gN, u_ret, u_retN, u_skip, u_expr, u_ifs, u_c, u_op, u_neg, u_test, u_and, u_or, u_not, u_if, u_nil, u_cons, u_tup, u_lst, u_callP, u_call, u_b, u_chain, u_andV, u_addI, u_subI, u_mulI, u_divI, u_modI, u_powI, u_cmpI, u_eqI, u_eqS, u_eqB, u_abs, u_intI, u_intB, u_newT, u_newF, u_isN, u_notN, wVar, List.set_cons_zero, List.set_cons_succ, List.getElem?_cons_zero, List.getElem?_cons_succ, List.length_cons, List.length_nil, u_lc, u_for, u_r1, u_r2, u_r3, u_num, u_notV, u_yes, u_w0, u_w1, u_dput, u_get2, u_dget, u_prop, u_fld, u_setF, u_make, u_makeS, u_met, u_calO, u_orT, u_tupIt, u_dc, u_maxDd, u_dnew, u_tupi, ix_p0, ix_p1, wSl, woNone, woSome]))
  refine ⟨by decide, fun a ha => mk_gk (rows := [(7, 1)]) (tail := []) rfl ha (inr_one (by decide) (by decide)) (by decide) (.inl ⟨rfl, fun e1 l1 i1 n1 => ⟨rfl, _, up_same, ?_⟩⟩)⟩
  rw [rm_up, rm_none ha]
  rw [u_own2]
  refine ⟨ledD_isI, ledD_isI, e1, es3, rfl, i1, ir, by simp at n1; omega, fun e4 l4 i4 n4 => ?_⟩
  have b1 := led_more s1 l1 l4
  have b2 : decide (es3 = es3) = true := decide_eq_true rfl
  ((try dsimp only); rw [u_seq]; (try simp only [u_asg, u_gN, u_ret, u_retN, u_skip, u_expr, u_ifs, u_c, u_op, u_neg, u_test, u_and, u_or, u_not, u_if, u_nil, u_cons, u_tup, u_lst, u_callP, u_call, u_b, u_chain, u_andV, u_addI, u_subI, u_mulI, u_divI, u_modI, u_powI, u_cmpI, u_eqI, u_eqS, u_eqB, u_abs, u_intI, u_intB, u_newT, u_newF, u_isN, u_notN, wVar, List.set_cons_zero, List.set_cons_succ, List.getElem?_cons_zero, List.getElem?_cons_succ, List.length_cons, List.length_nil, u_lc, u_for, u_r1, u_r2, u_r3, u_num, u_notV, u_yes, u_w0, u_w1, u_dput, u_get2, u_dget, u_prop, u_fld, u_setF, u_make, u_makeS, u_met, u_calO, u_orT, u_tupIt, u_dc, u_maxDd, u_dnew, u_tupi, ix_p0, ix_p1, wSl, woNone, woSome]))
  refine own_eq s1 s1 b2 (own_eq s1 s1 b2 (own_eq s1 s1 b2 (own_eq s1 l4.std b1 (own_eq s1 l4.std b1 ⟨by decide, by decide, ?_⟩))))
  refine ⟨rfl, rfl, rfl, rfl, ?_⟩
  refine go_no rfl ?_
  rw [u_seqi]
  simp only [u_asg, u_gN, u_ret, u_retN, u_skip, u_expr, u_ifs, u_c, u_op, u_neg, u_test, u_and, u_or, u_not, u_if, u_nil, u_cons, u_tup, u_lst, u_callP, u_call, u_b, u_chain, u_andV, u_addI, u_subI, u_mulI, u_divI, u_modI, u_powI, u_cmpI, u_eqI, u_eqS, u_eqB, u_abs, u_intI, u_intB, u_newT, u_newF, u_isN, u_notN, wVar, List.set_cons_zero, List.set_cons_succ, List.getElem?_cons_zero, List.getElem?_cons_succ, List.length_cons, List.length_nil, u_lc, u_for, u_r1, u_r2, u_r3, u_num, u_notV, u_yes, u_w0, u_w1, u_dput, u_get2, u_dget, u_prop, u_fld, u_setF, u_make, u_makeS, u_met, u_calO, u_orT, u_tupIt, u_dc, u_maxDd, u_dnew, u_tupi, ix_p0, ix_p1, wSl, woNone, woSome]
  refine ⟨_, _, rfl, rfl, ?_⟩
  rw [u_newF]
  refine K70.dict_of (pw_nodup s1.1) fun p hp => ?_
  rw [u_reprO]
  refine ⟨ledD_isI, es3, rfl, by omega, _, rfl, by decide, fun r hr => ?_⟩
  have hr1 : up h p (.dK (toK es3)) r = none := hr
  have rp : r ≠ p := by rintro rfl; rw [up_same] at hr1; cases hr1
  refine comp_go (fun _ g => g = up (up h p (.dK (toK es3))) r (.lst [])) rfl (fun _ _ _ => trivial) (fun i x g K hx e k => ?_) (fun g e => ?_)
  · subst e
    have := List.mem_of_getElem? hx
    have ⟨t, ty⟩ : ∃ t, tyD (up (up h p (.dK (toK es3))) r (.lst [])) x = some t := by
      simp only [List.mem_cons, List.not_mem_nil, or_false] at this
      rcases this with rfl | rfl | rfl | rfl | rfl | rfl
      · exact ⟨_, rfl⟩
      · exact ⟨_, rfl⟩
      · exact ⟨_, rfl⟩
      · exact ⟨_, rfl⟩
      · refine ⟨"dict", ?_⟩
        unfold tyD cur
        dsimp only
        rw [up_ne rp.symm, up_same]
      · exact ⟨_, rfl⟩
    clear hx this
    simp only [u_asg, u_gN, u_ret, u_retN, u_skip, u_expr, u_ifs, u_c, u_op, u_neg, u_test, u_and, u_or, u_not, u_if, u_nil, u_cons, u_tup, u_lst, u_callP, u_call, u_b, u_chain, u_andV, u_addI, u_subI, u_mulI, u_divI, u_modI, u_powI, u_cmpI, u_eqI, u_eqS, u_eqB, u_abs, u_intI, u_intB, u_newT, u_newF, u_isN, u_notN, wVar, List.set_cons_zero, List.set_cons_succ, List.getElem?_cons_zero, List.getElem?_cons_succ, List.length_cons, List.length_nil, u_lc, u_for, u_r1, u_r2, u_r3, u_num, u_notV, u_yes, u_w0, u_w1, u_dput, u_get2, u_dget, u_prop, u_fld, u_setF, u_make, u_makeS, u_met, u_calO, u_orT, u_tupIt, u_dc, u_maxDd, u_dnew, u_tupi, ix_p0, ix_p1, wSl, woNone, woSome]
    exact oth_eq s1 ty (go_no rfl (oth_eq s1 ty (go_no rfl (k _ rfl))))
  subst e
  refine ⟨[], up_same, ?_⟩
  rw [if_neg (by decide)]
  refine ⟨Nat.zero_le _, [], rfl, ?_⟩
  rw [rm_up, rm_none hr1]
  exact fin_new hp q
end K25
namespace K25
open PySem PySem.Spec L2 C8 DL PK PL PQ PN PB F4 PR
theorem u_heard {HS : HSpec} {P : Addr} {q : Str} {we : WE} {ρ : EnvD} {h : AH} {Q : KD} {X : KX} : wHeard HS P q we ρ h Q X = (h P = some (.tab q) ∧ HS (we ρ) h Q X) := rfl
theorem sl_lst {xs ys : List D} {lo hi : Option Int} {h : AH} {Q : KD} (e : cutD xs lo hi = ys) (q : Q (.lst ys) h) : dSl false (.lst xs) lo hi h Q := by
  subst e; unfold dSl; dsimp only; rw [u_newF]; exact q
theorem addL {xs ys : List D} {h : AH} {Q : KD} (hl : xs.length + ys.length ≤ 100000) (q : Q (.lst (xs ++ ys)) h) : dAdd false (.lst xs) (.lst ys) h Q := K26.addL_go hl q
theorem rp_row {k : Nat} (h : k ≤ 100) : Rp (.tup [.str "row", .int (k : Nat)]) 1 200 := (rp_tup (k := 0) (n := 61) (l := 2) (fun x hx => by
  have : x = .str "row" ∨ x = .int (k : Nat) := by simpa using hx
  rcases this with rfl | rfl
  · exact rp_str (by rw [PyData.shown]; decide +kernel)
  · exact rp_int (by decide) (by decide) (by omega)) (by simp)).up (by decide) (by decide)
theorem p__law_refused_right (z : Ad) : ∀ ds h Q X, S__law_refused_right z ds h Q X → w__law_refused_right z (endsD Q X) (startD 4 ds) h := by
  rintro ds h Q X ⟨n, p, rows, rfl, tb, I, hn, rws, q⟩
  show w__law_refused_right z (endsD Q X) [some (.ref p), some (.lst (rows.map pairD)), none, none] h
  have pt : z.t0 ≠ p := by
    obtain ⟨o, e1, cs, _, _, e2, _⟩ := I
    rintro e
    have := tb.1
    rw [e, e1, e2] at this; cases this
  replace I := Inv0.start I
  have lr := rws.len
  have tb1 : ∀ {h' m}, Inv0 h p m h' → h' z.t0 = some (.tab (("_law_refused_right" : Str) ++ ".<locals>." ++ "<lambda>")) := fun {h' m} J => J.old _ _ tb.1 pt
  unfold w__law_refused_right
  refine seq_go (fun ρ h' => ∃ k : Nat, ρ = [some (.ref p), some (.lst (rows.map pairD)), some (.int k), none] ∧ k ≤ rows.length ∧ Inv0 h p (n + 1) h') (fun K k => ?_) ?_
  · simp only [u_asg, u_gN, u_ret, u_retN, u_skip, u_expr, u_ifs, u_c, u_op, u_neg, u_test, u_and, u_or, u_not, u_if, u_nil, u_cons, u_tup, u_lst, u_callP, u_call, u_b, u_chain, u_andV, u_addI, u_subI, u_mulI, u_divI, u_modI, u_powI, u_cmpI, u_eqI, u_eqS, u_eqB, u_abs, u_intI, u_intB, u_newT, u_newF, u_isN, u_notN, wVar, List.set_cons_zero, List.set_cons_succ, List.getElem?_cons_zero, List.getElem?_cons_succ, List.length_cons, List.length_nil, u_lc, u_for, u_r1, u_r2, u_r3, u_num, u_notV, u_yes, u_w0, u_w1, u_dput, u_get2, u_dget, u_prop, u_fld, u_setF, u_make, u_makeS, u_met, u_calO, u_orT, u_tupIt, u_dc, u_maxDd, u_dnew, u_tupi, ix_p0, ix_p1, wSl, woNone, woSome]
    rw [u_lenL]
    simp only [u_asg, u_gN, u_ret, u_retN, u_skip, u_expr, u_ifs, u_c, u_op, u_neg, u_test, u_and, u_or, u_not, u_if, u_nil, u_cons, u_tup, u_lst, u_callP, u_call, u_b, u_chain, u_andV, u_addI, u_subI, u_mulI, u_divI, u_modI, u_powI, u_cmpI, u_eqI, u_eqS, u_eqB, u_abs, u_intI, u_intB, u_newT, u_newF, u_isN, u_notN, wVar, List.set_cons_zero, List.set_cons_succ, List.getElem?_cons_zero, List.getElem?_cons_succ, List.length_cons, List.length_nil, u_lc, u_for, u_r1, u_r2, u_r3, u_num, u_notV, u_yes, u_w0, u_w1, u_dput, u_get2, u_dget, u_prop, u_fld, u_setF, u_make, u_makeS, u_met, u_calO, u_orT, u_tupIt, u_dc, u_maxDd, u_dnew, u_tupi, ix_p0, ix_p1, wSl, woNone, woSome]
    refine ⟨trivial, draw_go I (by omega) (div_ok (by omega) (by rw [List.length_map]; omega)) fun v o a b I _ => ?_⟩
    obtain ⟨j, rfl⟩ := Int.eq_ofNat_of_zero_le a
    rw [List.length_map] at b
    exact k _ _ ⟨j, rfl, by omega, I⟩
  rintro ρ h1 ⟨k, rfl, kl, I⟩
  have lt : (rows.take k).length = k := by rw [List.length_take]; omega
  refine seq_go (fun ρ h' => ∃ x t, ρ = [some (.ref p), some (.lst (rows.map pairD)), some (.int k), some (.lst ((rows.take k).map pairD ++ x :: t))] ∧ x ∈ oddR ∧ t.length ≤ 6 ∧ Inv0 h p (n + 2) h') (fun K kk => ?_) ?_
  · simp only [u_asg, u_gN, u_ret, u_retN, u_skip, u_expr, u_ifs, u_c, u_op, u_neg, u_test, u_and, u_or, u_not, u_if, u_nil, u_cons, u_tup, u_lst, u_callP, u_call, u_b, u_chain, u_andV, u_addI, u_subI, u_mulI, u_divI, u_modI, u_powI, u_cmpI, u_eqI, u_eqS, u_eqB, u_abs, u_intI, u_intB, u_newT, u_newF, u_isN, u_notN, wVar, List.set_cons_zero, List.set_cons_succ, List.getElem?_cons_zero, List.getElem?_cons_succ, List.length_cons, List.length_nil, u_lc, u_for, u_r1, u_r2, u_r3, u_num, u_notV, u_yes, u_w0, u_w1, u_dput, u_get2, u_dget, u_prop, u_fld, u_setF, u_make, u_makeS, u_met, u_calO, u_orT, u_tupIt, u_dc, u_maxDd, u_dnew, u_tupi, ix_p0, ix_p1, wSl, woNone, woSome]
    refine sl_lst (cut_to _ _) ?_
    refine ⟨trivial, n + 1, p, rfl, I.pen, by omega, fun x o ox po => ?_⟩
    replace I := I.draw po
    refine ⟨by decide, addL (by simp; omega) (sl_lst (cut_from _ _) (addL (by simp; omega) ?_))⟩
    refine kk _ _ ⟨x, (rows.drop k).map pairD, ?_, ox, by simp; omega, I.mono (by omega)⟩
    rw [List.map_take, List.map_drop, List.append_assoc]
    rfl
  rintro ρ h2 ⟨x, t, rfl, ox, tl, I⟩
  refine seq_go (fun ρ h' => ∃ t, ρ = [some (.ref p), some (.lst (rows.map pairD)), some (.int k), some (.lst ((rows.take k).map pairD ++ x :: t))] ∧ t.length ≤ 7 ∧ Inv0 h p (n + 4) h') (fun K kk => ?_) ?_
  · simp only [u_asg, u_gN, u_ret, u_retN, u_skip, u_expr, u_ifs, u_c, u_op, u_neg, u_test, u_and, u_or, u_not, u_if, u_nil, u_cons, u_tup, u_lst, u_callP, u_call, u_b, u_chain, u_andV, u_addI, u_subI, u_mulI, u_divI, u_modI, u_powI, u_cmpI, u_eqI, u_eqS, u_eqB, u_abs, u_intI, u_intB, u_newT, u_newF, u_isN, u_notN, wVar, List.set_cons_zero, List.set_cons_succ, List.getElem?_cons_zero, List.getElem?_cons_succ, List.length_cons, List.length_nil, u_lc, u_for, u_r1, u_r2, u_r3, u_num, u_notV, u_yes, u_w0, u_w1, u_dput, u_get2, u_dget, u_prop, u_fld, u_setF, u_make, u_makeS, u_met, u_calO, u_orT, u_tupIt, u_dc, u_maxDd, u_dnew, u_tupi, ix_p0, ix_p1, wSl, woNone, woSome]
    refine ⟨trivial, draw_go I (by omega) (div_ok (by decide) (by decide)) fun v o a b I _ => ?_⟩
    rw [u_eqI]
    by_cases c : v = 0
    · refine go_yes (decide_eq_true c) ?_
      refine sl_lst (cut_to _ (k + 1)) ?_
      refine ⟨trivial, _, p, rfl, I.pen, by omega, fun y o oy po => ?_⟩
      replace I := I.draw po
      have l1 : ((rows.take k).map pairD ++ x :: t).length ≤ 20 := by simp; omega
      have e1 : ((rows.take k).map pairD ++ x :: t).take (k + 1) = (rows.take k).map pairD ++ [x] := by
        have : (rows.take k).map pairD ++ x :: t = ((rows.take k).map pairD ++ [x]) ++ t := by simp
        rw [this, List.take_left' (by simp; omega)]
      have e2 : ((rows.take k).map pairD ++ x :: t).drop (k + 1) = t := by
        have : (rows.take k).map pairD ++ x :: t = ((rows.take k).map pairD ++ [x]) ++ t := by simp
        rw [this, List.drop_left' (by simp; omega)]
      refine ⟨by decide, addL (by rw [e1]; simp; omega) (sl_lst (cut_from _ (k + 1)) (addL (by rw [e1, e2]; simp; omega) ?_))⟩
      refine kk _ _ ⟨y :: t, ?_, by simp; omega, I.mono (by omega)⟩
      rw [e1, e2]
      simp
    · exact go_no (decide_eq_false c) (kk _ _ ⟨t, rfl, by omega, I.mono (by omega)⟩)
  rintro ρ h3 ⟨t, rfl, tl, I⟩
  ((try dsimp only); rw [u_seq]; (try simp only [u_asg, u_gN, u_ret, u_retN, u_skip, u_expr, u_ifs, u_c, u_op, u_neg, u_test, u_and, u_or, u_not, u_if, u_nil, u_cons, u_tup, u_lst, u_callP, u_call, u_b, u_chain, u_andV, u_addI, u_subI, u_mulI, u_divI, u_modI, u_powI, u_cmpI, u_eqI, u_eqS, u_eqB, u_abs, u_intI, u_intB, u_newT, u_newF, u_isN, u_notN, wVar, List.set_cons_zero, List.set_cons_succ, List.getElem?_cons_zero, List.getElem?_cons_succ, List.length_cons, List.length_nil, u_lc, u_for, u_r1, u_r2, u_r3, u_num, u_notV, u_yes, u_w0, u_w1, u_dput, u_get2, u_dget, u_prop, u_fld, u_setF, u_make, u_makeS, u_met, u_calO, u_orT, u_tupIt, u_dc, u_maxDd, u_dnew, u_tupi, ix_p0, ix_p1, wSl, woNone, woSome]))
  refine sl_lst (cut_to _ 6) ?_
  ((try dsimp only); rw [u_seq]; (try simp only [u_asg, u_gN, u_ret, u_retN, u_skip, u_expr, u_ifs, u_c, u_op, u_neg, u_test, u_and, u_or, u_not, u_if, u_nil, u_cons, u_tup, u_lst, u_callP, u_call, u_b, u_chain, u_andV, u_addI, u_subI, u_mulI, u_divI, u_modI, u_powI, u_cmpI, u_eqI, u_eqS, u_eqB, u_abs, u_intI, u_intB, u_newT, u_newF, u_isN, u_notN, wVar, List.set_cons_zero, List.set_cons_succ, List.getElem?_cons_zero, List.getElem?_cons_succ, List.length_cons, List.length_nil, u_lc, u_for, u_r1, u_r2, u_r3, u_num, u_notV, u_yes, u_w0, u_w1, u_dput, u_get2, u_dget, u_prop, u_fld, u_setF, u_make, u_makeS, u_met, u_calO, u_orT, u_tupIt, u_dc, u_maxDd, u_dnew, u_tupi, ix_p0, ix_p1, wSl, woNone, woSome]))
  have done : ∀ h', Sub h3 h' → fin Q (.bl true) h' := fun h' s' => by
    obtain ⟨o, po, s⟩ := I.sub
    exact fin_sub (fun a u e => s' a u (s a u e)) (q o (po.mono (by omega)))
  by_cases c : (5 : Int) < (k : Nat)
  · exact go_yes (decide_eq_true c) (done _ fun _ _ e => e)
  refine go_no (decide_eq_false c) ?_
  have e6 : ((rows.take k).map pairD ++ x :: t).take 6 = (rows.take k).map pairD ++ x :: t.take (5 - k) := by
    rw [List.take_append, List.length_map, lt, List.take_of_length_le (by simp; omega)]
    obtain ⟨j, hj⟩ : ∃ j, 6 - k = j + 1 := ⟨5 - k, by omega⟩
    rw [hj, List.take_succ_cons]
    have : j = 5 - k := by omega
    rw [this]
  rw [e6]
  simp only [u_heard, u_asg, u_gN, u_ret, u_retN, u_skip, u_expr, u_ifs, u_c, u_op, u_neg, u_test, u_and, u_or, u_not, u_if, u_nil, u_cons, u_tup, u_lst, u_callP, u_call, u_b, u_chain, u_andV, u_addI, u_subI, u_mulI, u_divI, u_modI, u_powI, u_cmpI, u_eqI, u_eqS, u_eqB, u_abs, u_intI, u_intB, u_newT, u_newF, u_isN, u_notN, wVar, List.set_cons_zero, List.set_cons_succ, List.getElem?_cons_zero, List.getElem?_cons_succ, List.length_cons, List.length_nil, u_lc, u_for, u_r1, u_r2, u_r3, u_num, u_notV, u_yes, u_w0, u_w1, u_dput, u_get2, u_dget, u_prop, u_fld, u_setF, u_make, u_makeS, u_met, u_calO, u_orT, u_tupIt, u_dc, u_maxDd, u_dnew, u_tupi, ix_p0, ix_p1, wSl, woNone, woSome]
  refine ⟨tb1 I, rfl, rows.take k, x :: t.take (5 - k), rfl, fun e he => rws.inr e (List.mem_of_mem_take he), by simp; omega, .inr ⟨x, _, rfl, ox, fun h' s => ⟨z.InvalidRow, _, "row", _, rfl, .row _, ?_⟩⟩⟩
  rw [lt]
  refine go_rp (rp_row (k := k) (by omega)) (by decide) (by decide) rfl ?_
  refine ⟨by decide, go_rp (rp_row (k := k) (by omega)) (by decide) (by decide) rfl ?_⟩
  rw [u_eqS, decide_eq_true rfl]
  exact done h' s
end K25
namespace K25
open PySem PySem.Spec L2 C8 DL PK PL PQ PN PB F4 PR
def tenI : List Int := [0, 1, 2, 3, 4, 5, 6, 7, 8, 9]
def ten : Prs := [(9, 1), (8, 2), (7, 3), (6, 4), (5, 5), (4, 6), (3, 7), (2, 8), (1, 9), (0, 10)]
theorem ten_led {gs : Prs} (l : Led gs (amt ten)) : gs = ten.reverse := by
  have s : Std ten.reverse := ⟨by decide, by decide⟩
  exact l.unique (s.led.of_amt (amt_rev ten))
theorem ten_inr : InR ten := by
  intro e he
  simp only [ten, List.mem_cons, List.not_mem_nil, or_false] at he
  rcases he with rfl | rfl | rfl | rfl | rfl | rfl | rfl | rfl | rfl | rfl <;> exact ⟨by decide, by decide⟩
theorem ix_r (i : Nat) {n : Int} (hn : n = (i : Int)) {a : Addr} {xs : List D} {x : D} {h : AH} {Q : KD} (e : h a = some (.lst xs)) (e2 : xs[i]? = some x) (q : Q x h) : dIx (.ref a) (.int n) h Q := by
  subst hn
  obtain ⟨l, _⟩ := List.getElem?_eq_some_iff.mp e2
  rw [u_ixRd e (by rw [DL.atI_nat l]; exact e2)]
  exact q
theorem rowS (k : Nat) (h : k < 10) : SeqAt.shaped (pd (.tup [.str "row", .int (k : Nat)])) = true := by
  revert k; decide +kernel
theorem p__law_long_right (z : Ad) : ∀ ds h Q X, S__law_long_right z ds h Q X → w__law_long_right z (endsD Q X) (startD 6 ds) h := by
  rintro ds h Q X ⟨n, p, rfl, tb, I, hn, q⟩
  show w__law_long_right z (endsD Q X) [some (.ref p), none, none, none, none, none] h
  have pt : z.t1 ≠ p := by
    obtain ⟨o, e1, cs, _, _, e2, _⟩ := I
    rintro e
    have := tb.2
    rw [e, e1, e2] at this; cases this
  replace I := Inv0.start I
  have tb1 : ∀ {h' m}, Inv0 h p m h' → h' z.t1 = some (.tab (("_law_long_right" : Str) ++ ".<locals>." ++ "<lambda>")) := fun {h' m} J => J.old _ _ tb.2 pt
  unfold w__law_long_right
  refine seq_go (fun ρ h' => ∃ a, ρ = [some (.ref p), some (.ref a), none, none, none, none] ∧ h' = up h a (.lst (ten.map pairD)) ∧ h a = none) (fun K k => ?_) ?_
  · simp only [u_asg, u_gN, u_ret, u_retN, u_skip, u_expr, u_ifs, u_c, u_op, u_neg, u_test, u_and, u_or, u_not, u_if, u_nil, u_cons, u_tup, u_lst, u_callP, u_call, u_b, u_chain, u_andV, u_addI, u_subI, u_mulI, u_divI, u_modI, u_powI, u_cmpI, u_eqI, u_eqS, u_eqB, u_abs, u_intI, u_intB, u_newT, u_newF, u_isN, u_notN, wVar, List.set_cons_zero, List.set_cons_succ, List.getElem?_cons_zero, List.getElem?_cons_succ, List.length_cons, List.length_nil, u_lc, u_for, u_r1, u_r2, u_r3, u_num, u_notV, u_yes, u_w0, u_w1, u_dput, u_get2, u_dget, u_prop, u_fld, u_setF, u_make, u_makeS, u_met, u_calO, u_orT, u_tupIt, u_dc, u_maxDd, u_dnew, u_tupi, ix_p0, ix_p1, wSl, woNone, woSome]
    refine ⟨by decide, by decide, fun a ha => ?_⟩
    refine comp_map D.int (fun i => pairD (9 - i, i + 1)) tenI (fun _ => trivial) (sz_le (by decide)) (fun x acc K9 hx la k9 => ?_) ?_
    · rw [u_gN]
      try dsimp only [List.set_cons_zero, List.set_cons_succ, wipeD]
      simp only [u_asg, u_gN, u_ret, u_retN, u_skip, u_expr, u_ifs, u_c, u_op, u_neg, u_test, u_and, u_or, u_not, u_if, u_nil, u_cons, u_tup, u_lst, u_callP, u_call, u_b, u_chain, u_andV, u_addI, u_subI, u_mulI, u_divI, u_modI, u_powI, u_cmpI, u_eqI, u_eqS, u_eqB, u_abs, u_intI, u_intB, u_newT, u_newF, u_isN, u_notN, wVar, List.set_cons_zero, List.set_cons_succ, List.getElem?_cons_zero, List.getElem?_cons_succ, List.length_cons, List.length_nil, u_lc, u_for, u_r1, u_r2, u_r3, u_num, u_notV, u_yes, u_w0, u_w1, u_dput, u_get2, u_dget, u_prop, u_fld, u_setF, u_make, u_makeS, u_met, u_calO, u_orT, u_tupIt, u_dc, u_maxDd, u_dnew, u_tupi, ix_p0, ix_p1, wSl, woNone, woSome]
      exact ⟨sz_le (by decide), acc, up_same, la, by rw [up_up]; exact k9⟩
    · exact ⟨_, up_same, by rw [if_pos rfl]; exact k _ _ ⟨a, rfl, rfl, ha⟩⟩
  rintro _ _ ⟨a, rfl, rfl, ha⟩
  have ap : a ≠ p := by rintro rfl; obtain ⟨o, e1, _⟩ := I.pen; rw [ha] at e1; cases e1
  replace I := I.new (o := .lst (ten.map pairD)) ha
  have hA : up h a (.lst (ten.map pairD)) a = some (.lst (ten.map pairD)) := up_same
  generalize e9 : up h a (.lst (ten.map pairD)) = h1 at I hA ⊢
  clear e9
  refine seq_go (fun ρ h' => ρ = [some (.ref p), some (.ref a), some (ledD z.Ledger ten.reverse), none, none, none] ∧ h' = h1) (fun K k => ?_) ?_
  · simp only [u_asg, u_gN, u_ret, u_retN, u_skip, u_expr, u_ifs, u_c, u_op, u_neg, u_test, u_and, u_or, u_not, u_if, u_nil, u_cons, u_tup, u_lst, u_callP, u_call, u_b, u_chain, u_andV, u_addI, u_subI, u_mulI, u_divI, u_modI, u_powI, u_cmpI, u_eqI, u_eqS, u_eqB, u_abs, u_intI, u_intB, u_newT, u_newF, u_isN, u_notN, wVar, List.set_cons_zero, List.set_cons_succ, List.getElem?_cons_zero, List.getElem?_cons_succ, List.length_cons, List.length_nil, u_lc, u_for, u_r1, u_r2, u_r3, u_num, u_notV, u_yes, u_w0, u_w1, u_dput, u_get2, u_dget, u_prop, u_fld, u_setF, u_make, u_makeS, u_met, u_calO, u_orT, u_tupIt, u_dc, u_maxDd, u_dnew, u_tupi, ix_p0, ix_p1, wSl, woNone, woSome]
    refine ix_r 0 rfl hA rfl (ix_r 1 rfl hA rfl (ix_r 2 rfl hA rfl (ix_r 3 rfl hA rfl (ix_r 4 rfl hA rfl (ix_r 5 rfl hA rfl (ix_r 6 rfl hA rfl (ix_r 7 rfl hA rfl (ix_r 8 rfl hA rfl (ix_r 9 rfl hA rfl ?_)))))))))
    refine fun b hb => mk_gk (rows := ten) (tail := []) rfl hb ten_inr (by decide) (.inl ⟨rfl, fun e1 l1 i1 n1 => ⟨rfl, _, up_same, ?_⟩⟩)
    rw [rm_up, rm_none hb]
    obtain rfl := ten_led l1
    exact k _ _ ⟨rfl, rfl⟩
  rintro _ h1 ⟨rfl, rfl⟩
  refine seq_go (fun ρ h' => ρ = [some (.ref p), some (.ref a), some (ledD z.Ledger ten.reverse), none, none, none] ∧ h' = h1) (fun K k => ?_) ?_
  · simp only [u_asg, u_gN, u_ret, u_retN, u_skip, u_expr, u_ifs, u_c, u_op, u_neg, u_test, u_and, u_or, u_not, u_if, u_nil, u_cons, u_tup, u_lst, u_callP, u_call, u_b, u_chain, u_andV, u_addI, u_subI, u_mulI, u_divI, u_modI, u_powI, u_cmpI, u_eqI, u_eqS, u_eqB, u_abs, u_intI, u_intB, u_newT, u_newF, u_isN, u_notN, wVar, List.set_cons_zero, List.set_cons_succ, List.getElem?_cons_zero, List.getElem?_cons_succ, List.length_cons, List.length_nil, u_lc, u_for, u_r1, u_r2, u_r3, u_num, u_notV, u_yes, u_w0, u_w1, u_dput, u_get2, u_dget, u_prop, u_fld, u_setF, u_make, u_makeS, u_met, u_calO, u_orT, u_tupIt, u_dc, u_maxDd, u_dnew, u_tupi, ix_p0, ix_p1, wSl, woNone, woSome]
    refine ⟨ledD_isI, _, rfl, by decide, by decide, fun b hb => ?_⟩
    refine comp_map D.int (fun i => pairD (i, 10 - i)) tenI (fun _ => trivial) (sz_le (by decide)) (fun x acc K9 hx la k9 => ?_) ?_
    · rw [u_gN]
      try dsimp only [List.set_cons_zero, List.set_cons_succ, wipeD]
      simp only [u_asg, u_gN, u_ret, u_retN, u_skip, u_expr, u_ifs, u_c, u_op, u_neg, u_test, u_and, u_or, u_not, u_if, u_nil, u_cons, u_tup, u_lst, u_callP, u_call, u_b, u_chain, u_andV, u_addI, u_subI, u_mulI, u_divI, u_modI, u_powI, u_cmpI, u_eqI, u_eqS, u_eqB, u_abs, u_intI, u_intB, u_newT, u_newF, u_isN, u_notN, wVar, List.set_cons_zero, List.set_cons_succ, List.getElem?_cons_zero, List.getElem?_cons_succ, List.length_cons, List.length_nil, u_lc, u_for, u_r1, u_r2, u_r3, u_num, u_notV, u_yes, u_w0, u_w1, u_dput, u_get2, u_dget, u_prop, u_fld, u_setF, u_make, u_makeS, u_met, u_calO, u_orT, u_tupIt, u_dc, u_maxDd, u_dnew, u_tupi, ix_p0, ix_p1, wSl, woNone, woSome]
      exact ⟨sz_le (by decide), acc, up_same, la, by rw [up_up]; exact k9⟩
    · refine endF hb ⟨_, _, rfl, rfl, ?_⟩
      refine ⟨rfl, rfl, rfl, rfl, ?_⟩
      exact go_no rfl (k _ _ ⟨rfl, rfl⟩)
  rintro _ _ ⟨rfl, rfl⟩
  refine seq_go (fun ρ h' => ∃ k : Nat, ρ = [some (.ref p), some (.ref a), some (ledD z.Ledger ten.reverse), some (.int k), none, none] ∧ 6 ≤ k ∧ k < 10 ∧ Inv0 h p (n + 1) h' ∧ h' a = some (.lst (ten.map pairD))) (fun K k => ?_) ?_
  · simp only [u_asg, u_gN, u_ret, u_retN, u_skip, u_expr, u_ifs, u_c, u_op, u_neg, u_test, u_and, u_or, u_not, u_if, u_nil, u_cons, u_tup, u_lst, u_callP, u_call, u_b, u_chain, u_andV, u_addI, u_subI, u_mulI, u_divI, u_modI, u_powI, u_cmpI, u_eqI, u_eqS, u_eqB, u_abs, u_intI, u_intB, u_newT, u_newF, u_isN, u_notN, wVar, List.set_cons_zero, List.set_cons_succ, List.getElem?_cons_zero, List.getElem?_cons_succ, List.length_cons, List.length_nil, u_lc, u_for, u_r1, u_r2, u_r3, u_num, u_notV, u_yes, u_w0, u_w1, u_dput, u_get2, u_dget, u_prop, u_fld, u_setF, u_make, u_makeS, u_met, u_calO, u_orT, u_tupIt, u_dc, u_maxDd, u_dnew, u_tupi, ix_p0, ix_p1, wSl, woNone, woSome]
    refine ⟨trivial, draw_go (m := n) I (by omega) (div_ok (by decide) (by decide)) fun v o a1 b1 I ke => ?_⟩
    obtain ⟨j, rfl⟩ := Int.eq_ofNat_of_zero_le a1
    exact k _ _ ⟨6 + j, by simp, by omega, by omega, I, by rw [ke _ ap]; exact hA⟩
  rintro _ h2 ⟨k, rfl, k1, k2, I, hA⟩
  refine seq_go (fun ρ h' => ∃ x, ρ = [some (.ref p), some (.ref a), some (ledD z.Ledger ten.reverse), some (.int k), none, none] ∧ x ∈ oddR ∧ Inv0 h p (n + 2) h' ∧ h' a = some (.lst ((ten.map pairD).set k x))) (fun K kk => ?_) ?_
  · simp only [u_asg, u_gN, u_ret, u_retN, u_skip, u_expr, u_ifs, u_c, u_op, u_neg, u_test, u_and, u_or, u_not, u_if, u_nil, u_cons, u_tup, u_lst, u_callP, u_call, u_b, u_chain, u_andV, u_addI, u_subI, u_mulI, u_divI, u_modI, u_powI, u_cmpI, u_eqI, u_eqS, u_eqB, u_abs, u_intI, u_intB, u_newT, u_newF, u_isN, u_notN, wVar, List.set_cons_zero, List.set_cons_succ, List.getElem?_cons_zero, List.getElem?_cons_succ, List.length_cons, List.length_nil, u_lc, u_for, u_r1, u_r2, u_r3, u_num, u_notV, u_yes, u_w0, u_w1, u_dput, u_get2, u_dget, u_prop, u_fld, u_setF, u_make, u_makeS, u_met, u_calO, u_orT, u_tupIt, u_dc, u_maxDd, u_dnew, u_tupi, ix_p0, ix_p1, wSl, woNone, woSome, gSubL]
    refine ⟨trivial, n + 1, p, rfl, I.pen, by omega, fun x o ox po => ?_⟩
    replace I := I.draw po
    refine ⟨a, ten.map pairD, k, k, rfl, rfl, by rw [up_ne ap]; exact hA, ?_, kk _ _ ⟨x, rfl, ox, (I.put ha).mono (by omega), up_same⟩⟩
    unfold ixN
    have : (ten.map pairD).length = 10 := rfl
    rw [this, if_pos (by omega), if_pos (by omega)]
    rfl
  rintro _ h3 ⟨x, rfl, ox, I, hA⟩
  have done : ∀ h', Sub h3 h' → fin Q (.bl true) h' := fun h' s' => by
    obtain ⟨o, po, s⟩ := I.sub
    exact fin_sub (fun a u e => s' a u (s a u e)) (q o (po.mono (by omega)))
  refine seq_go (fun ρ h' => Sub h3 h' ∧ ρ = [some (.ref p), some (.ref a), some (ledD z.Ledger ten.reverse), some (.int k), some (.tup [.str "row", .int k]), none]) (fun K kk => ?_) ?_
  · have row : (ten.map pairD).set k x = (ten.take k).map pairD ++ x :: (ten.drop (k + 1)).map pairD := by
      rw [List.map_take, List.map_drop, List.set_eq_take_append_cons_drop, if_pos (by show k < 10; omega)]
    simp only [u_heard, u_asg, u_gN, u_ret, u_retN, u_skip, u_expr, u_ifs, u_c, u_op, u_neg, u_test, u_and, u_or, u_not, u_if, u_nil, u_cons, u_tup, u_lst, u_callP, u_call, u_b, u_chain, u_andV, u_addI, u_subI, u_mulI, u_divI, u_modI, u_powI, u_cmpI, u_eqI, u_eqS, u_eqB, u_abs, u_intI, u_intB, u_newT, u_newF, u_isN, u_notN, wVar, List.set_cons_zero, List.set_cons_succ, List.getElem?_cons_zero, List.getElem?_cons_succ, List.length_cons, List.length_nil, u_lc, u_for, u_r1, u_r2, u_r3, u_num, u_notV, u_yes, u_w0, u_w1, u_dput, u_get2, u_dget, u_prop, u_fld, u_setF, u_make, u_makeS, u_met, u_calO, u_orT, u_tupIt, u_dc, u_maxDd, u_dnew, u_tupi, ix_p0, ix_p1, wSl, woNone, woSome]
    refine ⟨tb1 I, ?_⟩
    unfold S__law_heard
    dsimp only
    have k10 : ((ten.map pairD).set k x).length = 10 := by rw [List.length_set]; rfl
    generalize (ten.map pairD).set k x = L at hA row k10
    match L, k10, row with
    | [x0, x1, x2, x3, x4, x5, x6, x7, x8, x9], _, row =>
      simp only [u_asg, u_gN, u_ret, u_retN, u_skip, u_expr, u_ifs, u_c, u_op, u_neg, u_test, u_and, u_or, u_not, u_if, u_nil, u_cons, u_tup, u_lst, u_callP, u_call, u_b, u_chain, u_andV, u_addI, u_subI, u_mulI, u_divI, u_modI, u_powI, u_cmpI, u_eqI, u_eqS, u_eqB, u_abs, u_intI, u_intB, u_newT, u_newF, u_isN, u_notN, wVar, List.set_cons_zero, List.set_cons_succ, List.getElem?_cons_zero, List.getElem?_cons_succ, List.length_cons, List.length_nil, u_lc, u_for, u_r1, u_r2, u_r3, u_num, u_notV, u_yes, u_w0, u_w1, u_dput, u_get2, u_dget, u_prop, u_fld, u_setF, u_make, u_makeS, u_met, u_calO, u_orT, u_tupIt, u_dc, u_maxDd, u_dnew, u_tupi, ix_p0, ix_p1, wSl, woNone, woSome]
      refine ix_r 0 rfl hA rfl (ix_r 1 rfl hA rfl (ix_r 2 rfl hA rfl (ix_r 3 rfl hA rfl (ix_r 4 rfl hA rfl (ix_r 5 rfl hA rfl (ix_r 6 rfl hA rfl (ix_r 7 rfl hA rfl (ix_r 8 rfl hA rfl (ix_r 9 rfl hA rfl ?_)))))))))
      have lt : (ten.take k).length = k := by rw [List.length_take]; show min k 10 = k; omega
      refine fun b hb => mk_gk (rows := ten.take k) (tail := x :: (ten.drop (k + 1)).map pairD) row hb (fun e he => ten_inr e (List.mem_of_mem_take he)) (by rw [lt, List.length_cons, List.length_map, List.length_drop]; show k + (10 - (k + 1) + 1) ≤ 100; omega) (.inr ⟨x, _, rfl, ox, fun h' s => ⟨z.InvalidRow, _, "row", _, rfl, .row _, ?_⟩⟩)
      rw [lt]
      exact kk _ _ ⟨s, rfl⟩
  rintro _ h4 ⟨s, rfl⟩
  simp only [u_asg, u_gN, u_ret, u_retN, u_skip, u_expr, u_ifs, u_c, u_op, u_neg, u_test, u_and, u_or, u_not, u_if, u_nil, u_cons, u_tup, u_lst, u_callP, u_call, u_b, u_chain, u_andV, u_addI, u_subI, u_mulI, u_divI, u_modI, u_powI, u_cmpI, u_eqI, u_eqS, u_eqB, u_abs, u_intI, u_intB, u_newT, u_newF, u_isN, u_notN, wVar, List.set_cons_zero, List.set_cons_succ, List.getElem?_cons_zero, List.getElem?_cons_succ, List.length_cons, List.length_nil, u_lc, u_for, u_r1, u_r2, u_r3, u_num, u_notV, u_yes, u_w0, u_w1, u_dput, u_get2, u_dget, u_prop, u_fld, u_setF, u_make, u_makeS, u_met, u_calO, u_orT, u_tupIt, u_dc, u_maxDd, u_dnew, u_tupi, ix_p0, ix_p1, wSl, woNone, woSome]
  refine ⟨by decide, ?_⟩
  rcases (show k = 6 ∨ k = 7 ∨ k = 8 ∨ k = 9 by omega) with rfl | rfl | rfl | rfl <;> exact ⟨rfl, rfl, rowS _ (by decide), rowS _ (by decide), done h4 s⟩
end K25
namespace K25
open PySem PySem.Spec L2 C8 DL PK PL PQ PN PB F4 PR
theorem sum_sm {K : Nat} : ∀ {xs : List Int}, (∀ x ∈ xs, x.natAbs < K) → xs.sum.natAbs ≤ xs.length * K
  | [], _ => by simp
  | x :: xs, h => by
    have h1 := h x (List.mem_cons_self ..)
    have h2 := sum_sm (xs := xs) fun y hy => h y (List.mem_cons_of_mem _ hy)
    rw [List.sum_cons, List.length_cons, Nat.add_mul]
    omega
theorem amt_sm {K : Nat} (k0 : 0 < K) {rows : Prs} (h : ∀ e ∈ rows, e.2.natAbs < K) (k : Int) : (amt rows k).natAbs ≤ rows.length * K := by
  have := sum_sm (K := K) (xs := rows.map fun e => if e.1 = k then e.2 else 0) fun x hx => by
    obtain ⟨e, he, rfl⟩ := List.mem_map.mp hx
    split
    · exact h e he
    · exact k0
  rw [List.length_map] at this
  exact this
theorem led_sm {gs rows : Prs} (l : Led gs (amt rows)) (hl : rows.length ≤ 12) (h : ∀ e ∈ rows, e.2.natAbs < 2 ^ 100) : ∀ e ∈ gs, e.2.natAbs < 2 ^ 110 := fun e he => by
  have h1 := ((l.mem e.1 e.2).mp he).1
  have h2 := amt_sm (by decide) h e.1
  have h3 := Nat.mul_le_mul_right (2 ^ 100) hl
  rw [← h1] at h2
  omega
def nine : Prs := [(9, 1), (8, 1), (7, 1), (6, 1), (5, 1), (4, 1), (3, 1), (8, -1), (1, 5)]
def nineS : Prs := [(1, 5), (3, 1), (4, 1), (5, 1), (6, 1), (7, 1), (9, 1)]
theorem nil_amt (k : Int) : amt [] k = 0 := rfl
theorem nine_led {gs : Prs} (l : Led gs (amt nine)) : gs = nineS := by
  have s : Std nineS := ⟨by decide, by decide⟩
  refine l.unique (s.led.of_amt fun k => ?_)
  unfold nine nineS
  simp only [amt_cons, nil_amt]
  omega
theorem two_led {gs : Prs} (l : Led gs (amt [(3, 1), (3, -1)])) : gs = [] := by
  have s : Std [] := ⟨by decide, by decide⟩
  refine l.unique (s.led.of_amt fun k => ?_)
  simp only [amt_cons, nil_amt]
  omega
theorem zero_led {gs : Prs} (l : Led gs (amt [(0, 0)])) : gs = [] := by
  have s : Std [] := ⟨by decide, by decide⟩
  refine l.unique (s.led.of_amt fun k => ?_)
  simp only [amt_cons, nil_amt]
  omega
theorem five_led {gs : Prs} (l : Led gs (amt [(0, 5)])) : gs = [(0, 5)] := by
  have s : Std [(0, 5)] := ⟨by decide, by decide⟩
  exact l.unique s.led
theorem inr_all {es : Prs} (h : es.all (fun e => decide (0 ≤ e.1) && decide (e.1 ≤ 1000000)) = true) : InR es := fun e he => by
  have := List.all_eq_true.mp h e he
  simpa using this
theorem p_law (z : Ad) : ∀ ds h Q X, S_law z ds h Q X → w_law z (endsD Q X) (startD 7 ds) h := by
  rintro ds h0 Q X ⟨js, rfl, tb, q⟩
  show w_law z (endsD Q X) [some (.lk (js.map D.int)), none, none, none, none, none, none] h0
  have q : ∀ h', fin Q (.bl true) h' := fun h' => fin_of (q h')
  unfold w_law
  rw [u_seq, u_asg, u_callP]
  simp only [u_cons, u_nil]
  rw [u_var rfl]
  refine ⟨rfl, js, rfl, fun p o hp r0 => ?_⟩
  have tb : Tb z (up h0 p o) := ⟨sub_up hp _ _ tb.1, sub_up hp _ _ tb.2⟩
  have I : PenAt 0 (up h0 p o) p := ⟨o, up_same, r0⟩
  have zp : z.t0 ≠ p ∧ z.t1 ≠ p := by
    obtain ⟨cs, a, g, rfl, _⟩ := r0
    refine ⟨?_, ?_⟩
    · rintro e; have := tb.1; rw [e, up_same] at this; cases this
    · rintro e; have := tb.2; rw [e, up_same] at this; cases this
  generalize up h0 p o = h at I tb ⊢
  replace I := Inv0.start I
  have tbI : ∀ {m g}, Inv0 h p m g → Tb z g := fun I => ⟨I.old _ _ tb.1 zp.1, I.old _ _ tb.2 zp.2⟩
  try dsimp only
  rw [u_gN]
  dsimp only [List.set_cons_zero, List.set_cons_succ]
  refine seq_go (fun ρ h' => ρ = [some (.lk (js.map D.int)), some (.ref p), none, none, none, none, none] ∧ Inv0 h p 10 h') (fun K k => ?_) ?_
  · simp only [u_asg, u_gN, u_ret, u_retN, u_skip, u_expr, u_ifs, u_c, u_op, u_neg, u_test, u_and, u_or, u_not, u_if, u_nil, u_cons, u_tup, u_lst, u_callP, u_call, u_b, u_chain, u_andV, u_addI, u_subI, u_mulI, u_divI, u_modI, u_powI, u_cmpI, u_eqI, u_eqS, u_eqB, u_abs, u_intI, u_intB, u_newT, u_newF, u_isN, u_notN, wVar, List.set_cons_zero, List.set_cons_succ, List.getElem?_cons_zero, List.getElem?_cons_succ, List.length_cons, List.length_nil, u_lc, u_for, u_r1, u_r2, u_r3, u_num, u_notV, u_yes, u_w0, u_w1, u_dput, u_get2, u_dget, u_prop, u_fld, u_setF, u_make, u_makeS, u_met, u_calO, u_orT, u_tupIt, u_dc, u_maxDd, u_dnew, u_tupi, ix_p0, ix_p1, wSl, woNone, woSome]
    exact ⟨trivial, 0, p, rfl, tb, I.pen, by decide, fun o po => go_no rfl (k _ _ ⟨rfl, I.draw po⟩)⟩
  rintro _ h1 ⟨rfl, I⟩
  refine seq_go (fun ρ h' => ∃ a2 a3 a4 a5, ρ = [some (.lk (js.map D.int)), some (.ref p), a2, a3, a4, a5, none] ∧ Inv0 h p 600 h') (fun K k => ?_) ?_
  · rw [u_for]
    simp only [u_r1, u_cons, u_nil, u_c]
    refine ⟨by decide, by decide, ?_⟩
    refine loop_go (fun i ρ g => ∃ a2 a3 a4 a5, ρ = [some (.lk (js.map D.int)), some (.ref p), a2, a3, a4, a5, none] ∧ Inv0 h p (10 + 100 * (i : Nat)) g) ⟨_, _, _, _, rfl, by simpa using I⟩ (fun _ _ _ _ => trivial) ?_ (fun ρ g ⟨a2, a3, a4, a5, e, I⟩ => k _ _ ⟨a2, a3, a4, a5, e, I.mono (by decide)⟩)
    rintro i x _ g K9 hi ⟨a2, a3, a4, a5, rfl, I⟩ k9
    obtain ⟨rfl, li⟩ := intsD_get hi
    have li : i < 5 := li
    rw [u_gN]
    dsimp only [List.set_cons_zero, List.set_cons_succ]
    rw [u_seq, u_asg, u_callP]
    simp only [u_cons, u_nil, u_c]
    rw [u_var rfl]
    refine ⟨rfl, _, p, rfl, I.pen, by omega, fun rows o rw0 po => ?_⟩
    have I := I.draw po
    generalize up g p o = g at I ⊢
    have l6 := rw0.len
    try dsimp only
    rw [u_gN]
    dsimp only [List.set_cons_zero, List.set_cons_succ]
    ((try dsimp only); rw [u_seq]; (try simp only [u_asg, u_gN, u_ret, u_retN, u_skip, u_expr, u_ifs, u_c, u_op, u_neg, u_test, u_and, u_or, u_not, u_if, u_nil, u_cons, u_tup, u_lst, u_callP, u_call, u_b, u_chain, u_andV, u_addI, u_subI, u_mulI, u_divI, u_modI, u_powI, u_cmpI, u_eqI, u_eqS, u_eqB, u_abs, u_intI, u_intB, u_newT, u_newF, u_isN, u_notN, wVar, List.set_cons_zero, List.set_cons_succ, List.getElem?_cons_zero, List.getElem?_cons_succ, List.length_cons, List.length_nil, u_lc, u_for, u_r1, u_r2, u_r3, u_num, u_notV, u_yes, u_w0, u_w1, u_dput, u_get2, u_dget, u_prop, u_fld, u_setF, u_make, u_makeS, u_met, u_calO, u_orT, u_tupIt, u_dc, u_maxDd, u_dnew, u_tupi, ix_p0, ix_p1, wSl, woNone, woSome]))
    refine ⟨_, _, rfl, rfl, ?_⟩
    rw [u_newF]
    ((try dsimp only); rw [u_seq]; (try simp only [u_asg, u_gN, u_ret, u_retN, u_skip, u_expr, u_ifs, u_c, u_op, u_neg, u_test, u_and, u_or, u_not, u_if, u_nil, u_cons, u_tup, u_lst, u_callP, u_call, u_b, u_chain, u_andV, u_addI, u_subI, u_mulI, u_divI, u_modI, u_powI, u_cmpI, u_eqI, u_eqS, u_eqB, u_abs, u_intI, u_intB, u_newT, u_newF, u_isN, u_notN, wVar, List.set_cons_zero, List.set_cons_succ, List.getElem?_cons_zero, List.getElem?_cons_succ, List.length_cons, List.length_nil, u_lc, u_for, u_r1, u_r2, u_r3, u_num, u_notV, u_yes, u_w0, u_w1, u_dput, u_get2, u_dget, u_prop, u_fld, u_setF, u_make, u_makeS, u_met, u_calO, u_orT, u_tupIt, u_dc, u_maxDd, u_dnew, u_tupi, ix_p0, ix_p1, wSl, woNone, woSome]))
    refine ⟨trivial, rows, [], by rw [List.append_nil], rw0.inr, by simpa using l6, .inl ⟨rfl, fun gs l ir ln => ?_⟩⟩
    have sm := led_sm l (by omega) rw0.sm
    ((try dsimp only); rw [u_seq]; (try simp only [u_asg, u_gN, u_ret, u_retN, u_skip, u_expr, u_ifs, u_c, u_op, u_neg, u_test, u_and, u_or, u_not, u_if, u_nil, u_cons, u_tup, u_lst, u_callP, u_call, u_b, u_chain, u_andV, u_addI, u_subI, u_mulI, u_divI, u_modI, u_powI, u_cmpI, u_eqI, u_eqS, u_eqB, u_abs, u_intI, u_intB, u_newT, u_newF, u_isN, u_notN, wVar, List.set_cons_zero, List.set_cons_succ, List.getElem?_cons_zero, List.getElem?_cons_succ, List.length_cons, List.length_nil, u_lc, u_for, u_r1, u_r2, u_r3, u_num, u_notV, u_yes, u_w0, u_w1, u_dput, u_get2, u_dget, u_prop, u_fld, u_setF, u_make, u_makeS, u_met, u_calO, u_orT, u_tupIt, u_dc, u_maxDd, u_dnew, u_tupi, ix_p0, ix_p1, wSl, woNone, woSome]))
    refine ⟨trivial, rows, rfl, by omega, fun es l2 _ => ?_⟩
    obtain rfl : es = gs := l2.unique l
    refine ⟨trivial, es, rfl, l.std, ir, by omega, sm, go_no rfl ?_⟩
    refine ⟨trivial, rows, es, rfl, rw0, l, by omega, ir, go_no rfl (same_lst (fl_lst (fl_pairs rows)) (by decide) (go_no rfl ?_))⟩
    try simp only [u_asg, u_gN, u_ret, u_retN, u_skip, u_expr, u_ifs, u_c, u_op, u_neg, u_test, u_and, u_or, u_not, u_if, u_nil, u_cons, u_tup, u_lst, u_callP, u_call, u_b, u_chain, u_andV, u_addI, u_subI, u_mulI, u_divI, u_modI, u_powI, u_cmpI, u_eqI, u_eqS, u_eqB, u_abs, u_intI, u_intB, u_newT, u_newF, u_isN, u_notN, wVar, List.set_cons_zero, List.set_cons_succ, List.getElem?_cons_zero, List.getElem?_cons_succ, List.length_cons, List.length_nil, u_lc, u_for, u_r1, u_r2, u_r3, u_num, u_notV, u_yes, u_w0, u_w1, u_dput, u_get2, u_dget, u_prop, u_fld, u_setF, u_make, u_makeS, u_met, u_calO, u_orT, u_tupIt, u_dc, u_maxDd, u_dnew, u_tupi, ix_p0, ix_p1, wSl, woNone, woSome]
    refine ⟨trivial, _, p, rows, rfl, tbI I, I.pen, by omega, rw0, fun o po => go_no rfl ?_⟩
    have I := I.draw po
    generalize up g p o = g at I ⊢
    refine ⟨trivial, rows, rfl, by omega, fun es2 l3 _ => ?_⟩
    obtain rfl : es2 = es := l3.unique l
    refine ⟨trivial, es2, rfl, l.std, ir, by omega, sm, go_no rfl ?_⟩
    exact k9 _ _ ⟨_, _, _, _, rfl, I.mono (by omega)⟩
  rintro _ h2 ⟨a2, a3, a4, a5, rfl, I⟩
  refine seq_go (fun ρ h' => ρ = [some (.lk (js.map D.int)), some (.ref p), a2, a3, a4, a5, some (ledD z.Ledger nineS)] ∧ h' = h2) (fun K k => ?_) ?_
  · simp only [u_asg, u_gN, u_ret, u_retN, u_skip, u_expr, u_ifs, u_c, u_op, u_neg, u_test, u_and, u_or, u_not, u_if, u_nil, u_cons, u_tup, u_lst, u_callP, u_call, u_b, u_chain, u_andV, u_addI, u_subI, u_mulI, u_divI, u_modI, u_powI, u_cmpI, u_eqI, u_eqS, u_eqB, u_abs, u_intI, u_intB, u_newT, u_newF, u_isN, u_notN, wVar, List.set_cons_zero, List.set_cons_succ, List.getElem?_cons_zero, List.getElem?_cons_succ, List.length_cons, List.length_nil, u_lc, u_for, u_r1, u_r2, u_r3, u_num, u_notV, u_yes, u_w0, u_w1, u_dput, u_get2, u_dget, u_prop, u_fld, u_setF, u_make, u_makeS, u_met, u_calO, u_orT, u_tupIt, u_dc, u_maxDd, u_dnew, u_tupi, ix_p0, ix_p1, wSl, woNone, woSome]
    refine ⟨by decide, by decide, by decide, by decide, by decide, by decide, by decide, by decide, by decide, ?_⟩
    refine fun b hb => mk_gk (rows := nine) (tail := []) rfl hb (inr_all (by decide)) (by decide) (.inl ⟨rfl, fun e1 l1 i1 n1 => ⟨rfl, _, up_same, ?_⟩⟩)
    rw [rm_up, rm_none hb]
    obtain rfl := nine_led l1
    exact k _ _ ⟨rfl, rfl⟩
  rintro _ _ ⟨rfl, rfl⟩
  refine seq_go (fun ρ h' => ρ = [some (.lk (js.map D.int)), some (.ref p), a2, a3, a4, a5, some (ledD z.Ledger nineS)]) (fun K k => ?_) ?_
  · simp only [u_asg, u_gN, u_ret, u_retN, u_skip, u_expr, u_ifs, u_c, u_op, u_neg, u_test, u_and, u_or, u_not, u_if, u_nil, u_cons, u_tup, u_lst, u_callP, u_call, u_b, u_chain, u_andV, u_addI, u_subI, u_mulI, u_divI, u_modI, u_powI, u_cmpI, u_eqI, u_eqS, u_eqB, u_abs, u_intI, u_intB, u_newT, u_newF, u_isN, u_notN, wVar, List.set_cons_zero, List.set_cons_succ, List.getElem?_cons_zero, List.getElem?_cons_succ, List.length_cons, List.length_nil, u_lc, u_for, u_r1, u_r2, u_r3, u_num, u_notV, u_yes, u_w0, u_w1, u_dput, u_get2, u_dget, u_prop, u_fld, u_setF, u_make, u_makeS, u_met, u_calO, u_orT, u_tupIt, u_dc, u_maxDd, u_dnew, u_tupi, ix_p0, ix_p1, wSl, woNone, woSome]
    refine ⟨ledD_isI, _, rfl, by decide, by decide, by decide, by decide, by decide, by decide, by decide, by decide, ?_⟩
    exact ⟨rfl, rfl, rfl, rfl, go_no rfl (k _ _ rfl)⟩
  rintro _ h3 rfl
  simp only [u_asg, u_gN, u_ret, u_retN, u_skip, u_expr, u_ifs, u_c, u_op, u_neg, u_test, u_and, u_or, u_not, u_if, u_nil, u_cons, u_tup, u_lst, u_callP, u_call, u_b, u_chain, u_andV, u_addI, u_subI, u_mulI, u_divI, u_modI, u_powI, u_cmpI, u_eqI, u_eqS, u_eqB, u_abs, u_intI, u_intB, u_newT, u_newF, u_isN, u_notN, wVar, List.set_cons_zero, List.set_cons_succ, List.getElem?_cons_zero, List.getElem?_cons_succ, List.length_cons, List.length_nil, u_lc, u_for, u_r1, u_r2, u_r3, u_num, u_notV, u_yes, u_w0, u_w1, u_dput, u_get2, u_dget, u_prop, u_fld, u_setF, u_make, u_makeS, u_met, u_calO, u_orT, u_tupIt, u_dc, u_maxDd, u_dnew, u_tupi, ix_p0, ix_p1, wSl, woNone, woSome]
  refine ⟨by decide, by decide, fun b hb => mk_gk (rows := [(3, 1), (3, -1)]) (tail := []) rfl hb (inr_all (by decide)) (by decide) (.inl ⟨rfl, fun e1 l1 i1 n1 => ⟨rfl, _, up_same, ?_⟩⟩)⟩
  rw [rm_up, rm_none hb]
  obtain rfl := two_led l1
  clear hb b
  refine fun b hb => mk_gk (rows := []) (tail := []) rfl hb (inr_all (by decide)) (by decide) (.inl ⟨rfl, fun e1 l1 i1 n1 => ⟨rfl, _, up_same, ?_⟩⟩)
  rw [rm_up, rm_none hb]
  obtain rfl : e1 = [] := List.length_eq_zero_iff.mp (Nat.le_zero.mp n1)
  clear hb b
  refine own_eq l1.std l1.std (decide_eq_true rfl) (go_yes rfl ?_)
  try simp only [u_notO, u_asg, u_gN, u_ret, u_retN, u_skip, u_expr, u_ifs, u_c, u_op, u_neg, u_test, u_and, u_or, u_not, u_if, u_nil, u_cons, u_tup, u_lst, u_callP, u_call, u_b, u_chain, u_andV, u_addI, u_subI, u_mulI, u_divI, u_modI, u_powI, u_cmpI, u_eqI, u_eqS, u_eqB, u_abs, u_intI, u_intB, u_newT, u_newF, u_isN, u_notN, wVar, List.set_cons_zero, List.set_cons_succ, List.getElem?_cons_zero, List.getElem?_cons_succ, List.length_cons, List.length_nil, u_lc, u_for, u_r1, u_r2, u_r3, u_num, u_notV, u_yes, u_w0, u_w1, u_dput, u_get2, u_dget, u_prop, u_fld, u_setF, u_make, u_makeS, u_met, u_calO, u_orT, u_tupIt, u_dc, u_maxDd, u_dnew, u_tupi, ix_p0, ix_p1, wSl, woNone, woSome]
  refine ⟨by decide, fun b hb => mk_gk (rows := [(0, 0)]) (tail := []) rfl hb (inr_all (by decide)) (by decide) (.inl ⟨rfl, fun e1 l1 i1 n1 => ⟨rfl, _, up_same, ?_⟩⟩)⟩
  rw [rm_up, rm_none hb]
  obtain rfl := zero_led l1
  clear hb b
  refine ⟨ledD_isI, [], rfl, 0, rfl, by decide, go_yes rfl ?_⟩
  try simp only [u_asg, u_gN, u_ret, u_retN, u_skip, u_expr, u_ifs, u_c, u_op, u_neg, u_test, u_and, u_or, u_not, u_if, u_nil, u_cons, u_tup, u_lst, u_callP, u_call, u_b, u_chain, u_andV, u_addI, u_subI, u_mulI, u_divI, u_modI, u_powI, u_cmpI, u_eqI, u_eqS, u_eqB, u_abs, u_intI, u_intB, u_newT, u_newF, u_isN, u_notN, wVar, List.set_cons_zero, List.set_cons_succ, List.getElem?_cons_zero, List.getElem?_cons_succ, List.length_cons, List.length_nil, u_lc, u_for, u_r1, u_r2, u_r3, u_num, u_notV, u_yes, u_w0, u_w1, u_dput, u_get2, u_dget, u_prop, u_fld, u_setF, u_make, u_makeS, u_met, u_calO, u_orT, u_tupIt, u_dc, u_maxDd, u_dnew, u_tupi, ix_p0, ix_p1, wSl, woNone, woSome]
  refine ⟨by decide, fun b hb => mk_gk (rows := [(0, 5)]) (tail := []) rfl hb (inr_all (by decide)) (by decide) (.inl ⟨rfl, fun e1 l1 i1 n1 => ⟨rfl, _, up_same, ?_⟩⟩)⟩
  rw [rm_up, rm_none hb]
  obtain rfl := five_led l1
  clear hb b
  refine ⟨ledD_isI, _, rfl, (fun e => by cases e), fun m m1 m2 => ?_⟩
  obtain rfl : m = 0 := by simpa using m1
  have r0 : Rp (.int 0) 0 21 := rp_int (j := 20) (by decide) (by decide) (by decide)
  refine go_rp r0 (by decide) (by decide) rfl ?_
  rw [u_eqS, decide_eq_true (show (pd (D.int 0)).shown = Str.ofString "0" by rw [pd, PyData.shown]; decide +kernel)]
  exact q _
end K25
namespace K25
open PySem PySem.Spec L2 C8 DL PK PL PQ PN PB F4 PR PyProof.Rows
theorem sc_InvalidRow___init__ : FnScope ["self", "index"] ["self", "index"] (defScope s_InvalidRow___init__) := ⟨rfl, rfl, rfl, by decide +kernel, rfl, by decide +kernel, by decide +kernel⟩
theorem sc_is_integer : FnScope PK.N_is_integer ["value"] (defScope s_is_integer) := ⟨rfl, rfl, rfl, by decide +kernel, rfl, by decide +kernel, by decide +kernel⟩
theorem sc_is_between : FnScope PK.N_is_between ["value", "least", "most"] (defScope s_is_between) := ⟨rfl, rfl, rfl, by decide +kernel, rfl, by decide +kernel, by decide +kernel⟩
theorem sc_is_row : FnScope N_is_row ["value"] (defScope s_is_row) := ⟨rfl, rfl, rfl, by decide +kernel, rfl, by decide +kernel, by decide +kernel⟩
theorem sc_Ledger___init__ : FnScope N_Ledger___init__ ["self", "rows"] (defScope s_Ledger___init__) := ⟨rfl, rfl, rfl, by decide +kernel, rfl, by decide +kernel, by decide +kernel⟩
theorem sc_Ledger_rows : FnScope N_Ledger_rows ["self"] (defScope s_Ledger_rows) := ⟨rfl, rfl, rfl, by decide +kernel, rfl, by decide +kernel, by decide +kernel⟩
theorem sc_Ledger_greatest : FnScope N_Ledger_greatest ["self"] (defScope s_Ledger_greatest) := ⟨rfl, rfl, rfl, by decide +kernel, rfl, by decide +kernel, by decide +kernel⟩
theorem sc_Ledger___getitem__ : FnScope N_Ledger___getitem__ ["self", "offset"] (defScope s_Ledger___getitem__) := ⟨rfl, rfl, rfl, by decide +kernel, rfl, by decide +kernel, by decide +kernel⟩
theorem sc_Ledger___contains__ : FnScope N_Ledger___contains__ ["self", "value"] (defScope s_Ledger___contains__) := ⟨rfl, rfl, rfl, by decide +kernel, rfl, by decide +kernel, by decide +kernel⟩
theorem sc_Ledger___len__ : FnScope N_Ledger___len__ ["self"] (defScope s_Ledger___len__) := ⟨rfl, rfl, rfl, by decide +kernel, rfl, by decide +kernel, by decide +kernel⟩
theorem sc_Ledger___add__ : FnScope N_Ledger___add__ ["self", "other"] (defScope s_Ledger___add__) := ⟨rfl, rfl, rfl, by decide +kernel, rfl, by decide +kernel, by decide +kernel⟩
theorem sc_Ledger___eq__ : FnScope N_Ledger___eq__ ["self", "other"] (defScope s_Ledger___eq__) := ⟨rfl, rfl, rfl, by decide +kernel, rfl, by decide +kernel, by decide +kernel⟩
theorem sc_Ledger___repr__ : FnScope N_Ledger___repr__ ["self"] (defScope s_Ledger___repr__) := ⟨rfl, rfl, rfl, by decide +kernel, rfl, by decide +kernel, by decide +kernel⟩
theorem sc__law_pen : FnScope N__law_pen ["_law_script"] (defScope s__law_pen) := ⟨rfl, rfl, rfl, by decide +kernel, rfl, by decide +kernel, by decide +kernel⟩
theorem sc__law_draw : FnScope N__law_draw ["_law_pen_here", "_law_many"] (defScope s__law_draw) := ⟨rfl, rfl, rfl, by decide +kernel, rfl, by decide +kernel, by decide +kernel⟩
theorem sc__law_word : FnScope N__law_word ["_law_it"] (defScope s__law_word) := ⟨rfl, rfl, rfl, by decide +kernel, rfl, by decide +kernel, by decide +kernel⟩
theorem sc__law_field : FnScope N__law_field ["_law_word_here", "_law_it"] (defScope s__law_field) := ⟨rfl, rfl, rfl, by decide +kernel, rfl, by decide +kernel, by decide +kernel⟩
theorem sc__law_more_field : FnScope N__law_more_field ["_law_word_here", "_law_it"] (defScope s__law_more_field) := ⟨rfl, rfl, rfl, by decide +kernel, rfl, by decide +kernel, by decide +kernel⟩
theorem sc__law_heard : FnScope N__law_heard ["_law_ask"] (defScope s__law_heard) := ⟨rfl, rfl, rfl, by decide +kernel, rfl, by decide +kernel, by decide +kernel⟩
theorem sc__law_offset : FnScope N__law_offset ["_law_pen_here"] (defScope s__law_offset) := ⟨rfl, rfl, rfl, by decide +kernel, rfl, by decide +kernel, by decide +kernel⟩
theorem sc__law_amount : FnScope N__law_amount ["_law_pen_here"] (defScope s__law_amount) := ⟨rfl, rfl, rfl, by decide +kernel, rfl, by decide +kernel, by decide +kernel⟩
theorem sc__law_rows : FnScope N__law_rows ["_law_pen_here", "_law_most"] (defScope s__law_rows) := ⟨rfl, rfl, rfl, by decide +kernel, rfl, by decide +kernel, by decide +kernel⟩
theorem sc__law_sums : FnScope N__law_sums ["_law_rows_here"] (defScope s__law_sums) := ⟨rfl, rfl, rfl, by decide +kernel, rfl, by decide +kernel, by decide +kernel⟩
theorem sc__law_ledger : FnScope N__law_ledger ["_law_rows_here"] (defScope s__law_ledger) := ⟨rfl, rfl, rfl, by decide +kernel, rfl, by decide +kernel, by decide +kernel⟩
theorem sc__law_odd : FnScope N__law_odd ["_law_pen_here"] (defScope s__law_odd) := ⟨rfl, rfl, rfl, by decide +kernel, rfl, by decide +kernel, by decide +kernel⟩
theorem sc__law_refused_right : FnScope N__law_refused_right ["_law_pen_here", "_law_rows_here"] (defScope s__law_refused_right) := ⟨rfl, rfl, rfl, by decide +kernel, rfl, by decide +kernel, by decide +kernel⟩
theorem sc__law_told_right : FnScope N__law_told_right ["_law_made", "_law_due"] (defScope s__law_told_right) := ⟨rfl, rfl, rfl, by decide +kernel, rfl, by decide +kernel, by decide +kernel⟩
theorem sc__law_alike_right : FnScope N__law_alike_right ["_law_made", "_law_rows_here"] (defScope s__law_alike_right) := ⟨rfl, rfl, rfl, by decide +kernel, rfl, by decide +kernel, by decide +kernel⟩
theorem sc__law_long_right : FnScope N__law_long_right ["_law_pen_here"] (defScope s__law_long_right) := ⟨rfl, rfl, rfl, by decide +kernel, rfl, by decide +kernel, by decide +kernel⟩
theorem sc_law : FnScope N_law ["_law_script"] (defScope s_law) := ⟨rfl, rfl, rfl, by decide +kernel, rfl, by decide +kernel, by decide +kernel⟩
/-- what the module's names hold -/
structure Txt (K : PySem.W.Frag) (mg : Str → Option Value) (z : Ad) : Prop where
  k_Ledger : Cls K z.Ledger
  n_Ledger_amounts : NoAttr K z.Ledger "amounts"
  i_Ledger : IsiC K z.Ledger
  v_Ledger : Cst K mg "Ledger" (.ref z.Ledger)
  ii_Ledger : ITabOk K (PK.ii_Ledger z)
  v_AbsentError : Cst K mg "AbsentError" (.ref z.AbsentError)
  v_Contradiction : Cst K mg "Contradiction" (.ref z.Contradiction)
  v_DifferentModes : Cst K mg "DifferentModes" (.ref z.DifferentModes)
  v_EchoError : Cst K mg "EchoError" (.ref z.EchoError)
  v_Finished : Cst K mg "Finished" (.ref z.Finished)
  v_Full : Cst K mg "Full" (.ref z.Full)
  v_InvalidAccount : Cst K mg "InvalidAccount" (.ref z.InvalidAccount)
  v_InvalidBound : Cst K mg "InvalidBound" (.ref z.InvalidBound)
  v_InvalidCapacity : Cst K mg "InvalidCapacity" (.ref z.InvalidCapacity)
  v_InvalidMode : Cst K mg "InvalidMode" (.ref z.InvalidMode)
  v_InvalidNumber : Cst K mg "InvalidNumber" (.ref z.InvalidNumber)
  v_InvalidProgram : Cst K mg "InvalidProgram" (.ref z.InvalidProgram)
  v_InvalidReading : Cst K mg "InvalidReading" (.ref z.InvalidReading)
  v_InvalidRow : Cst K mg "InvalidRow" (.ref z.InvalidRow)
  v_InvalidTable : Cst K mg "InvalidTable" (.ref z.InvalidTable)
  v_InvalidText : Cst K mg "InvalidText" (.ref z.InvalidText)
  v_Lossy : Cst K mg "Lossy" (.ref z.Lossy)
  v_NoName : Cst K mg "NoName" (.ref z.NoName)
  v_NoPlace : Cst K mg "NoPlace" (.ref z.NoPlace)
  v_NoPoint : Cst K mg "NoPoint" (.ref z.NoPoint)
  v_NoReading : Cst K mg "NoReading" (.ref z.NoReading)
  v_NothingToUndo : Cst K mg "NothingToUndo" (.ref z.NothingToUndo)
  v_SizeError : Cst K mg "SizeError" (.ref z.SizeError)
  v_TooLarge : Cst K mg "TooLarge" (.ref z.TooLarge)
  v_TooLong : Cst K mg "TooLong" (.ref z.TooLong)
  v_TooManyProcesses : Cst K mg "TooManyProcesses" (.ref z.TooManyProcesses)
  v_UnknownCommand : Cst K mg "UnknownCommand" (.ref z.UnknownCommand)
  xg_EchoError : mg "EchoError" = some (.ref z.EchoError)
  xg_SizeError : mg "SizeError" = some (.ref z.SizeError)
  xg_AbsentError : mg "AbsentError" = some (.ref z.AbsentError)
  xerr : ∀ C ∈ errs z, PySem.W.exmAny K (.ref C) [.ref z.EchoError, .ref z.SizeError, .ref z.AbsentError] = some true
  xtab : XTabOk K (xtab z)
  xf_asked : ∀ C ∈ [], XVal K C ∧ PySem.W.findIn K (.ref C) "asked" = some none
  xf_command : ∀ C ∈ [], XVal K C ∧ PySem.W.findIn K (.ref C) "command" = some none
  xf_count : ∀ C ∈ [], XVal K C ∧ PySem.W.findIn K (.ref C) "count" = some none
  xf_first : ∀ C ∈ [], XVal K C ∧ PySem.W.findIn K (.ref C) "first" = some none
  xf_index : ∀ C ∈ [z.InvalidRow], XVal K C ∧ PySem.W.findIn K (.ref C) "index" = some none
  xf_length : ∀ C ∈ [], XVal K C ∧ PySem.W.findIn K (.ref C) "length" = some none
  xf_limit : ∀ C ∈ [], XVal K C ∧ PySem.W.findIn K (.ref C) "limit" = some none
  xf_line : ∀ C ∈ [], XVal K C ∧ PySem.W.findIn K (.ref C) "line" = some none
  xf_name : ∀ C ∈ [], XVal K C ∧ PySem.W.findIn K (.ref C) "name" = some none
  xf_number : ∀ C ∈ [], XVal K C ∧ PySem.W.findIn K (.ref C) "number" = some none
  xf_place : ∀ C ∈ [], XVal K C ∧ PySem.W.findIn K (.ref C) "place" = some none
  xf_point : ∀ C ∈ [], XVal K C ∧ PySem.W.findIn K (.ref C) "point" = some none
  xf_points : ∀ C ∈ [], XVal K C ∧ PySem.W.findIn K (.ref C) "points" = some none
  xf_second : ∀ C ∈ [], XVal K C ∧ PySem.W.findIn K (.ref C) "second" = some none
  xf_value : ∀ C ∈ [], XVal K C ∧ PySem.W.findIn K (.ref C) "value" = some none
  xf_word : ∀ C ∈ [], XVal K C ∧ PySem.W.findIn K (.ref C) "word" = some none
  z_LookupError : mg "LookupError" = none
  z_OverflowError : mg "OverflowError" = none
  z_ValueError : mg "ValueError" = none
  z_abs : mg "abs" = none
  z_bool : mg "bool" = none
  z_dict : mg "dict" = none
  z_enumerate : mg "enumerate" = none
  z_int : mg "int" = none
  z_isinstance : mg "isinstance" = none
  z_len : mg "len" = none
  z_list : mg "list" = none
  z_max : mg "max" = none
  z_range : mg "range" = none
  z_repr : mg "repr" = none
  z_sorted : mg "sorted" = none
  z_str : mg "str" = none
  z_tuple : mg "tuple" = none
  c_MOST_OFFSET : Cst K mg "MOST_OFFSET" (.int 1000000)
/-! ### the derivations -/
section
variable {P : Program} {w : World} {K : PySem.W.Frag} {mg : Str → Option Value} {base : Heap}
theorem d_is_integer {z : Ad} (T : Txt K mg z)  {f : Addr} (cdv : Value) (A : Around) (outer : List PySem.Env) (s : Shared) (H : Hp) (E : XK) (c : Cg false (cxOf (L2.CX P w) P w K mg base PK.N_is_integer "is_integer" (defScope s_is_integer) f cdv A outer s H E) E 0) :
    ASs (cxOf (L2.CX P w) P w K mg base PK.N_is_integer "is_integer" (defScope s_is_integer) f cdv A outer s H E) E (defBody s_is_integer) (PK.w_is_integer z) :=
  (ass_one (as_ret (ae_and (ae_b dIsi_ok T.z_isinstance bb_isinstance (aa_cons (ae_var 0) (aa_cons (ae_ty T.z_int bb_int) aa_nil))) (ae_one (ae_not (ae_b dIsi_ok T.z_isinstance bb_isinstance (aa_cons (ae_var 0) (aa_cons (ae_ty T.z_bool bb_bool) aa_nil))))))))
theorem d_is_between {z : Ad} (T : Txt K mg z) (C_is_integer : Cal false P w K mg base "is_integer" 1 1 [] (fun ds _ => ds) (PK.S_is_integer z)) {f : Addr} (cdv : Value) (A : Around) (outer : List PySem.Env) (s : Shared) (H : Hp) (E : XK) (c : Cg false (cxOf (L2.CX P w) P w K mg base PK.N_is_between "is_between" (defScope s_is_between) f cdv A outer s H E) E 1) :
    ASs (cxOf (L2.CX P w) P w K mg base PK.N_is_between "is_between" (defScope s_is_between) f cdv A outer s H E) E (defBody s_is_between) (PK.w_is_between z) :=
  (ass_one (as_ret (ae_and (ae_call c C_is_integer (by decide) (by decide) (aa_cons (ae_var 0) aa_nil)) (ae_one (ae_chain2 dCmpI_ok dCmpI_ok op_le op_le (ae_var 1) (ae_var 0) (ae_var 2))))))
theorem d_is_row {z : Ad} (T : Txt K mg z) (C_is_between : Cal false P w K mg base "is_between" 2 3 [] (fun ds _ => ds) (PK.S_is_between z)) (C_is_integer : Cal false P w K mg base "is_integer" 1 1 [] (fun ds _ => ds) (PK.S_is_integer z)) {f : Addr} (cdv : Value) (A : Around) (outer : List PySem.Env) (s : Shared) (H : Hp) (E : XK) (c : Cg false (cxOf (L2.CX P w) P w K mg base N_is_row "is_row" (defScope s_is_row) f cdv A outer s H E) E 2) :
    ASs (cxOf (L2.CX P w) P w K mg base N_is_row "is_row" (defScope s_is_row) f cdv A outer s H E) E (defBody s_is_row) (w_is_row z) :=
  (ass_cons (as_if (AW.at (aw_or (at_not (at_val (ae_b dIsi_ok T.z_isinstance bb_isinstance (aa_cons (ae_var 0) (aa_cons (ae_ty T.z_tuple bb_tuple) aa_nil))))) (aw_or1 (at_ne c (ae_b dLen_ok T.z_len bb_len (aa_cons (ae_var 0) aa_nil)) ae_int)))) (ass_one (as_ret ae_bl)) ass_nil)
    (ass_one (as_ret (ae_and (ae_call c C_is_between (by decide) (by decide) (aa_cons (ae_ix (ae_var 0) ae_int) (aa_cons ae_int (aa_cons (ae_glob T.c_MOST_OFFSET) aa_nil)))) (ae_one (ae_call c C_is_integer (by decide) (by decide) (aa_cons (ae_ix (ae_var 0) ae_int) aa_nil)))))))
theorem d_Ledger___init__ {z : Ad} (T : Txt K mg z) (C_is_row : Cal false P w K mg base "is_row" 3 1 [] (fun ds _ => ds) (S_is_row z)) (X_InvalidRow : XMk P w K mg base "InvalidRow" z.InvalidRow 1 ["index"]) {f : Addr} (cdv : Value) (A : Around) (outer : List PySem.Env) (s : Shared) (H : Hp) (E : XK) (c : Cg false (cxOf (L2.CX P w) P w K mg base N_Ledger___init__ "Ledger.__init__" (defScope s_Ledger___init__) f cdv A outer s H E) E 3) :
    ASs (cxOf (L2.CX P w) P w K mg base N_Ledger___init__ "Ledger.__init__" (defScope s_Ledger___init__) f cdv A outer s H E) E (defBody s_Ledger___init__) (w_Ledger___init__ z) :=
  (ass_cons (as_set 2 c.nd ae_dnew)
    (ass_cons (as_for c (ai_num T.z_enumerate (aa_cons (ae_var 1) aa_nil)) (ag_tup c.calm (ags_cons (ag_name 3 c.nd) (ags_cons (ag_name 4 c.nd) ags_nil))) (ass_cons (as_if (at_not (at_val (ae_call c C_is_row (by decide) (by decide) (aa_cons (ae_var 4) aa_nil)))) (ass_one (as_raise c X_InvalidRow (by decide) (aa_cons (ae_var 3) aa_nil))) ass_nil)
    (ass_one (as_dput c (ae_var 2) (ae_ix (ae_var 4) ae_int) (ae_add false (ae_get2 c (ae_var 2) (ae_ix (ae_var 4) ae_int) ae_int ⟨rfl, rfl, rfl, rfl⟩) (ae_ix (ae_var 4) ae_int))))))
    (ass_one (as_fld T.k_Ledger T.n_Ledger_amounts (ae_var 0) (ae_dc false (own := [("offset", 5)]) c (ai_list (ae_b (dSortD_ok (m := false) c.calm) T.z_sorted PyProof.Rows.boot_sorted (aa_cons (ae_var 2) aa_nil))) (show BlkOk N_Ledger___init__ (defScope s_Ledger___init__) _ [("offset", 5)] from ⟨rfl, by decide +kernel, by decide +kernel, by decide +kernel, by decide +kernel⟩) (gw_name (i := 5) (by decide)) (fun s H C cl fp => pg_name (i := 5) c.nd rfl (by first | exact Or.inl rfl | exact Or.inr rfl)) (fun s H C cl fp c => ats_one (at_ne c (ae_dget c (ae_var 2) (ae_var 5) (fun _ _ => rfl)) ae_int)) (fun s H C cl fp c => (ae_var 5)) (fun s H C cl fp c => (ae_dget c (ae_var 2) (ae_var 5) (fun _ _ => rfl))))))))
theorem d_Ledger_rows {z : Ad} (T : Txt K mg z)  {f : Addr} (cdv : Value) (A : Around) (outer : List PySem.Env) (s : Shared) (H : Hp) (E : XK) (c : Cg false (cxOf (L2.CX P w) P w K mg base N_Ledger_rows "Ledger.rows" (defScope s_Ledger_rows) f cdv A outer s H E) E 0) :
    ASs (cxOf (L2.CX P w) P w K mg base N_Ledger_rows "Ledger.rows" (defScope s_Ledger_rows) f cdv A outer s H E) E (defBody s_Ledger_rows) (PL.w_Ledger_rows z) :=
  (ass_one (as_ret (ae_tupIt T.z_tuple c (ae_fld T.k_Ledger T.n_Ledger_amounts (ae_var 0)))))
theorem d_Ledger_greatest {z : Ad} (T : Txt K mg z)  {f : Addr} (cdv : Value) (A : Around) (outer : List PySem.Env) (s : Shared) (H : Hp) (E : XK) (c : Cg false (cxOf (L2.CX P w) P w K mg base N_Ledger_greatest "Ledger.greatest" (defScope s_Ledger_greatest) f cdv A outer s H E) E 0) :
    ASs (cxOf (L2.CX P w) P w K mg base N_Ledger_greatest "Ledger.greatest" (defScope s_Ledger_greatest) f cdv A outer s H E) E (defBody s_Ledger_greatest) (PL.w_Ledger_greatest z) :=
  (ass_one (as_ret (ae_maxDd T.z_max c (aa_cons (ae_fld T.k_Ledger T.n_Ledger_amounts (ae_var 0)) aa_nil) (ak_cons ae_non ak_nil))))
theorem d_Ledger___getitem__ {z : Ad} (T : Txt K mg z)  {f : Addr} (cdv : Value) (A : Around) (outer : List PySem.Env) (s : Shared) (H : Hp) (E : XK) (c : Cg false (cxOf (L2.CX P w) P w K mg base N_Ledger___getitem__ "Ledger.__getitem__" (defScope s_Ledger___getitem__) f cdv A outer s H E) E 0) :
    ASs (cxOf (L2.CX P w) P w K mg base N_Ledger___getitem__ "Ledger.__getitem__" (defScope s_Ledger___getitem__) f cdv A outer s H E) E (defBody s_Ledger___getitem__) (w_Ledger___getitem__ z) :=
  (ass_one (as_ret (ae_get2 c (ae_fld T.k_Ledger T.n_Ledger_amounts (ae_var 0)) (ae_var 1) ae_int ⟨rfl, rfl, rfl, rfl⟩)))
theorem d_Ledger___contains__ {z : Ad} (T : Txt K mg z) (C_is_integer : Cal false P w K mg base "is_integer" 1 1 [] (fun ds _ => ds) (PK.S_is_integer z)) {f : Addr} (cdv : Value) (A : Around) (outer : List PySem.Env) (s : Shared) (H : Hp) (E : XK) (c : Cg false (cxOf (L2.CX P w) P w K mg base N_Ledger___contains__ "Ledger.__contains__" (defScope s_Ledger___contains__) f cdv A outer s H E) E 1) :
    ASs (cxOf (L2.CX P w) P w K mg base N_Ledger___contains__ "Ledger.__contains__" (defScope s_Ledger___contains__) f cdv A outer s H E) E (defBody s_Ledger___contains__) (w_Ledger___contains__ z) :=
  (ass_one (as_ret (ae_and (ae_call c C_is_integer (by decide) (by decide) (aa_cons (ae_var 1) aa_nil)) (ae_one (ae_din c (ae_var 1) (ae_fld T.k_Ledger T.n_Ledger_amounts (ae_var 0)))))))
theorem d_Ledger___len__ {z : Ad} (T : Txt K mg z)  {f : Addr} (cdv : Value) (A : Around) (outer : List PySem.Env) (s : Shared) (H : Hp) (E : XK) (c : Cg false (cxOf (L2.CX P w) P w K mg base N_Ledger___len__ "Ledger.__len__" (defScope s_Ledger___len__) f cdv A outer s H E) E 0) :
    ASs (cxOf (L2.CX P w) P w K mg base N_Ledger___len__ "Ledger.__len__" (defScope s_Ledger___len__) f cdv A outer s H E) E (defBody s_Ledger___len__) (PL.w_Ledger___len__ z) :=
  (ass_one (as_ret (ae_b dLen_ok T.z_len bb_len (aa_cons (ae_fld T.k_Ledger T.n_Ledger_amounts (ae_var 0)) aa_nil))))
theorem d_Ledger___add__ {z : Ad} (T : Txt K mg z) (M_Ledger : MakC P w K mg base "Ledger" z.Ledger 4 (starS 1 (S_Ledger___init__ z))) (R_Ledger_rows : PrpC P w K mg base z.Ledger "rows" 1 (PL.S_Ledger_rows z)) {f : Addr} (cdv : Value) (A : Around) (outer : List PySem.Env) (s : Shared) (H : Hp) (E : XK) (c : Cg false (cxOf (L2.CX P w) P w K mg base N_Ledger___add__ "Ledger.__add__" (defScope s_Ledger___add__) f cdv A outer s H E) E 5) :
    ASs (cxOf (L2.CX P w) P w K mg base N_Ledger___add__ "Ledger.__add__" (defScope s_Ledger___add__) f cdv A outer s H E) E (defBody s_Ledger___add__) (w_Ledger___add__ z) :=
  (ass_cons (as_set 2 c.nd (ae_add false (ag_prop c R_Ledger_rows (by decide) (ae_var 0)) (ag_prop c R_Ledger_rows (by decide) (ae_var 1))))
    (ass_one (as_ret (ag_makeS c M_Ledger (by decide) (ae_var 2)))))
theorem d_Ledger___eq__ {z : Ad} (T : Txt K mg z)  {f : Addr} (cdv : Value) (A : Around) (outer : List PySem.Env) (s : Shared) (H : Hp) (E : XK) (c : Cg false (cxOf (L2.CX P w) P w K mg base N_Ledger___eq__ "Ledger.__eq__" (defScope s_Ledger___eq__) f cdv A outer s H E) E 0) :
    ASs (cxOf (L2.CX P w) P w K mg base N_Ledger___eq__ "Ledger.__eq__" (defScope s_Ledger___eq__) f cdv A outer s H E) E (defBody s_Ledger___eq__) (w_Ledger___eq__ z) :=
  (ass_one (as_ret (ae_and (ae_b (dIsiS_ok T.ii_Ledger) T.z_isinstance bb_isinstance (aa_cons (ae_var 1) (aa_cons (ae_glob T.v_Ledger) aa_nil))) (ae_one (ae_eqK c (ae_fld T.k_Ledger T.n_Ledger_amounts (ae_var 0)) (ae_fld T.k_Ledger T.n_Ledger_amounts (ae_var 1)))))))
theorem d_Ledger___repr__ {z : Ad} (T : Txt K mg z) (LN_Ledger : LenC P w K mg base z.Ledger 1 (PL.S_Ledger___len__ z)) {f : Addr} (cdv : Value) (A : Around) (outer : List PySem.Env) (s : Shared) (H : Hp) (E : XK) (c : Cg false (cxOf (L2.CX P w) P w K mg base N_Ledger___repr__ "Ledger.__repr__" (defScope s_Ledger___repr__) f cdv A outer s H E) E 2) :
    ASs (cxOf (L2.CX P w) P w K mg base N_Ledger___repr__ "Ledger.__repr__" (defScope s_Ledger___repr__) f cdv A outer s H E) E (defBody s_Ledger___repr__) (w_Ledger___repr__ z) :=
  (ass_one (as_ret (ae_joined (AJ.cons ae_str (AJ.cons (ae_fmt (ae_b (dLenO_ok c LN_Ledger (by decide)) T.z_len bb_len (aa_cons (ae_var 0) aa_nil))) (AJ.cons ae_str AJ.nil))))))
theorem d__law_pen {z : Ad} (T : Txt K mg z)  {f : Addr} (cdv : Value) (A : Around) (outer : List PySem.Env) (s : Shared) (H : Hp) (E : XK) (c : Cg false (cxOf (L2.CX P w) P w K mg base N__law_pen "_law_pen" (defScope s__law_pen) f cdv A outer s H E) E 0) :
    ASs (cxOf (L2.CX P w) P w K mg base N__law_pen "_law_pen" (defScope s__law_pen) f cdv A outer s H E) E (defBody s__law_pen) (F4.w__law_pen z) :=
  (ass_one (as_ret (ae_lst true (aa_cons (ae_bt (dListOf_ok (m := false)) T.z_list bb_list (aa_cons (ae_sl false (ae_var 0) ao_none (ao_some ae_int)) aa_nil)) (aa_cons ae_int (aa_cons ae_int aa_nil))))))
theorem d__law_draw {z : Ad} (T : Txt K mg z)  {f : Addr} (cdv : Value) (A : Around) (outer : List PySem.Env) (s : Shared) (H : Hp) (E : XK) (c : Cg false (cxOf (L2.CX P w) P w K mg base N__law_draw "_law_draw" (defScope s__law_draw) f cdv A outer s H E) E 0) :
    ASs (cxOf (L2.CX P w) P w K mg base N__law_draw "_law_draw" (defScope s__law_draw) f cdv A outer s H E) E (defBody s__law_draw) (F4.w__law_draw z) :=
  (ass_cons (as_if (at_gt (ae_ix (ae_var 0) ae_int) ae_int) (ass_cons (as_set 2 c.nd (ae_mod (ae_ix (ae_var 0) ae_int) (ae_var 1)))
    (ass_cons (as_asg (ae_div (ae_ix (ae_var 0) ae_int) (ae_var 1)) (ag_subL (ae_var 0) ae_int (fun _ => rfl)))
    (ass_one (as_ret (ae_var 2))))) ass_nil)
    (ass_cons (as_set 3 c.nd (ae_ix (ae_var 0) ae_int))
    (ass_cons (as_asg (ae_add false (ae_var 3) ae_int) (ag_subL (ae_var 0) ae_int (fun _ => rfl)))
    (ass_cons (as_set 4 c.nd (ae_add false (ae_mul false ae_int (ae_var 3)) ae_int))
    (ass_cons (as_if (at_ne c (ae_ix (ae_var 0) ae_int) (ae_lst false aa_nil)) (ass_one (as_set 4 c.nd (ae_ix (ae_ix (ae_var 0) ae_int) (ae_mod (ae_var 3) (ae_b dLen_ok T.z_len bb_len (aa_cons (ae_ix (ae_var 0) ae_int) aa_nil)))))) ass_nil)
    (ass_cons (as_if (AW.at (aw_and (at_lt (ae_var 3) (ae_b dLen_ok T.z_len bb_len (aa_cons (ae_ix (ae_var 0) ae_int) aa_nil))) (aw_and1 (at_ge (ae_b dAbs_ok T.z_abs bb_abs (aa_cons (ae_var 4) aa_nil)) (ae_pow ae_int ae_int))))) (ass_cons (as_set 5 c.nd (ae_add false (ae_mul false ae_int (ae_b dAbs_ok T.z_abs bb_abs (aa_cons (ae_var 4) aa_nil))) (ae_bt dInt_ok T.z_int bb_int (aa_cons (ae_lt (ae_var 4) ae_int) aa_nil))))
    (ass_cons (as_asg (ae_div (ae_var 5) (ae_var 1)) (ag_subL (ae_var 0) ae_int (fun _ => rfl)))
    (ass_one (as_ret (ae_mod (ae_var 5) (ae_var 1)))))) ass_nil)
    (ass_cons (as_set 6 c.nd (ae_mod (ae_pow (ae_add false (ae_add false (ae_mod (ae_var 4) ae_int) (ae_mul false ae_int (ae_var 3))) ae_int) ae_int) ae_int))
    (ass_cons (as_set 6 c.nd (ae_mod (ae_pow (ae_add false (ae_add false (ae_mul false (ae_var 6) (ae_add false (ae_var 3) ae_int)) (ae_mul false (ae_mul false ae_int (ae_var 3)) (ae_var 3))) ae_int) ae_int) ae_int))
    (ass_one (as_ret (ae_mod (ae_div (ae_var 6) ae_int) (ae_var 1))))))))))))
theorem d__law_word {z : Ad} (T : Txt K mg z)  {f : Addr} (cdv : Value) (A : Around) (outer : List PySem.Env) (s : Shared) (H : Hp) (E : XK) (c : Cg false (cxOf (L2.CX P w) P w K mg base N__law_word "_law_word" (defScope s__law_word) f cdv A outer s H E) E 0) :
    ASs (cxOf (L2.CX P w) P w K mg base N__law_word "_law_word" (defScope s__law_word) f cdv A outer s H E) E (defBody s__law_word) (w__law_word z) :=
  (ass_cons (as_set 1 c.nd (ae_lst false (aa_cons (ae_b (dIsX_ok T.xtab) T.z_isinstance bb_isinstance (aa_cons (ae_var 0) (aa_cons (ae_glob T.v_InvalidMode) aa_nil))) (aa_cons (ae_b (dIsX_ok T.xtab) T.z_isinstance bb_isinstance (aa_cons (ae_var 0) (aa_cons (ae_glob T.v_InvalidNumber) aa_nil))) (aa_cons (ae_b (dIsX_ok T.xtab) T.z_isinstance bb_isinstance (aa_cons (ae_var 0) (aa_cons (ae_glob T.v_InvalidCapacity) aa_nil))) aa_nil)))))
    (ass_cons (as_set 1 c.nd (ae_add false (ae_var 1) (ae_lst false (aa_cons (ae_b (dIsX_ok T.xtab) T.z_isinstance bb_isinstance (aa_cons (ae_var 0) (aa_cons (ae_glob T.v_InvalidReading) aa_nil))) (aa_cons (ae_b (dIsX_ok T.xtab) T.z_isinstance bb_isinstance (aa_cons (ae_var 0) (aa_cons (ae_glob T.v_InvalidBound) aa_nil))) (aa_cons (ae_b (dIsX_ok T.xtab) T.z_isinstance bb_isinstance (aa_cons (ae_var 0) (aa_cons (ae_glob T.v_InvalidProgram) aa_nil))) aa_nil))))))
    (ass_cons (as_set 1 c.nd (ae_add false (ae_var 1) (ae_lst false (aa_cons (ae_b (dIsX_ok T.xtab) T.z_isinstance bb_isinstance (aa_cons (ae_var 0) (aa_cons (ae_glob T.v_InvalidRow) aa_nil))) (aa_cons (ae_b (dIsX_ok T.xtab) T.z_isinstance bb_isinstance (aa_cons (ae_var 0) (aa_cons (ae_glob T.v_InvalidTable) aa_nil))) (aa_cons (ae_b (dIsX_ok T.xtab) T.z_isinstance bb_isinstance (aa_cons (ae_var 0) (aa_cons (ae_glob T.v_InvalidAccount) aa_nil))) aa_nil))))))
    (ass_cons (as_set 1 c.nd (ae_add false (ae_var 1) (ae_lst false (aa_cons (ae_b (dIsX_ok T.xtab) T.z_isinstance bb_isinstance (aa_cons (ae_var 0) (aa_cons (ae_glob T.v_InvalidText) aa_nil))) (aa_cons (ae_b (dIsX_ok T.xtab) T.z_isinstance bb_isinstance (aa_cons (ae_var 0) (aa_cons (ae_glob T.v_Lossy) aa_nil))) (aa_cons (ae_b (dIsX_ok T.xtab) T.z_isinstance bb_isinstance (aa_cons (ae_var 0) (aa_cons (ae_glob T.v_DifferentModes) aa_nil))) aa_nil))))))
    (ass_cons (as_set 1 c.nd (ae_add false (ae_var 1) (ae_lst false (aa_cons (ae_b (dIsX_ok T.xtab) T.z_isinstance bb_isinstance (aa_cons (ae_var 0) (aa_cons (ae_glob T.v_Contradiction) aa_nil))) (aa_cons (ae_b (dIsX_ok T.xtab) T.z_isinstance bb_isinstance (aa_cons (ae_var 0) (aa_cons (ae_glob T.v_UnknownCommand) aa_nil))) (aa_cons (ae_b (dIsX_ok T.xtab) T.z_isinstance bb_isinstance (aa_cons (ae_var 0) (aa_cons (ae_glob T.v_TooLarge) aa_nil))) aa_nil))))))
    (ass_cons (as_set 1 c.nd (ae_add false (ae_var 1) (ae_lst false (aa_cons (ae_b (dIsX_ok T.xtab) T.z_isinstance bb_isinstance (aa_cons (ae_var 0) (aa_cons (ae_glob T.v_TooLong) aa_nil))) (aa_cons (ae_b (dIsX_ok T.xtab) T.z_isinstance bb_isinstance (aa_cons (ae_var 0) (aa_cons (ae_glob T.v_TooManyProcesses) aa_nil))) (aa_cons (ae_b (dIsX_ok T.xtab) T.z_isinstance bb_isinstance (aa_cons (ae_var 0) (aa_cons (ae_glob T.v_Full) aa_nil))) aa_nil))))))
    (ass_cons (as_set 1 c.nd (ae_add false (ae_var 1) (ae_lst false (aa_cons (ae_b (dIsX_ok T.xtab) T.z_isinstance bb_isinstance (aa_cons (ae_var 0) (aa_cons (ae_glob T.v_NoPlace) aa_nil))) (aa_cons (ae_b (dIsX_ok T.xtab) T.z_isinstance bb_isinstance (aa_cons (ae_var 0) (aa_cons (ae_glob T.v_NoPoint) aa_nil))) (aa_cons (ae_b (dIsX_ok T.xtab) T.z_isinstance bb_isinstance (aa_cons (ae_var 0) (aa_cons (ae_glob T.v_NoReading) aa_nil))) aa_nil))))))
    (ass_cons (as_set 1 c.nd (ae_add false (ae_var 1) (ae_lst false (aa_cons (ae_b (dIsX_ok T.xtab) T.z_isinstance bb_isinstance (aa_cons (ae_var 0) (aa_cons (ae_glob T.v_NoName) aa_nil))) (aa_cons (ae_b (dIsX_ok T.xtab) T.z_isinstance bb_isinstance (aa_cons (ae_var 0) (aa_cons (ae_glob T.v_NothingToUndo) aa_nil))) (aa_cons (ae_b (dIsX_ok T.xtab) T.z_isinstance bb_isinstance (aa_cons (ae_var 0) (aa_cons (ae_glob T.v_Finished) aa_nil))) aa_nil))))))
    (ass_cons (as_if (at_ne c (ae_countB (ae_var 1) (aa_cons ae_bl aa_nil)) ae_int) (ass_one (as_ret ae_str)) ass_nil)
    (ass_cons (as_set 2 c.nd (ae_indexB (ae_var 1) (aa_cons ae_bl aa_nil)))
    (ass_cons (as_set 3 c.nd (ae_lst true (aa_cons (ae_b (dIsX_ok T.xtab) T.z_isinstance bb_isinstance (aa_cons (ae_var 0) (aa_cons (ae_glob T.v_EchoError) aa_nil))) (aa_cons (ae_b (dIsX_ok T.xtab) T.z_isinstance bb_isinstance (aa_cons (ae_var 0) (aa_cons (ae_glob T.v_SizeError) aa_nil))) (aa_cons (ae_b (dIsX_ok T.xtab) T.z_isinstance bb_isinstance (aa_cons (ae_var 0) (aa_cons (ae_glob T.v_AbsentError) aa_nil))) aa_nil)))))
    (ass_cons (as_expr (ae_append (ae_var 3) (aa_cons (ae_ix (ae_lst false (aa_cons (ae_b (dIsX_ok T.xtab) T.z_isinstance bb_isinstance (aa_cons (ae_var 0) (aa_cons (ae_ty T.z_ValueError (by decide +kernel)) aa_nil))) (aa_cons (ae_b (dIsX_ok T.xtab) T.z_isinstance bb_isinstance (aa_cons (ae_var 0) (aa_cons (ae_ty T.z_OverflowError (by decide +kernel)) aa_nil))) (aa_cons (ae_b (dIsX_ok T.xtab) T.z_isinstance bb_isinstance (aa_cons (ae_var 0) (aa_cons (ae_ty T.z_LookupError (by decide +kernel)) aa_nil))) aa_nil)))) (ae_add false (ae_bt dInt_ok T.z_int bb_int (aa_cons (ae_gt (ae_var 2) ae_int) aa_nil)) (ae_bt dInt_ok T.z_int bb_int (aa_cons (ae_gt (ae_var 2) ae_int) aa_nil)))) aa_nil)))
    (ass_cons (as_set 4 c.nd (ae_lst false (aa_cons ae_str (aa_cons ae_str (aa_cons ae_str (aa_cons ae_str (aa_cons ae_str (aa_cons ae_str (aa_cons ae_str (aa_cons ae_str (aa_cons ae_str (aa_cons ae_str (aa_cons ae_str aa_nil)))))))))))))
    (ass_cons (as_set 4 c.nd (ae_add false (ae_var 4) (ae_lst false (aa_cons ae_str (aa_cons ae_str (aa_cons ae_str (aa_cons ae_str (aa_cons ae_str (aa_cons ae_str (aa_cons ae_str (aa_cons ae_str (aa_cons ae_str (aa_cons ae_str aa_nil)))))))))))))
    (ass_cons (as_set 4 c.nd (ae_add false (ae_var 4) (ae_lst false (aa_cons ae_str (aa_cons ae_str (aa_cons ae_str aa_nil))))))
    (ass_one (as_ret (ae_if (at_eq c (ae_var 3) (ae_lst false (aa_cons (ae_lt (ae_var 2) ae_int) (aa_cons (ae_chain2 dCmpI_ok dCmpI_ok op_lt op_lt ae_int (ae_var 2) ae_int) (aa_cons (ae_gt (ae_var 2) ae_int) (aa_cons ae_bl aa_nil)))))) (ae_ix (ae_var 4) (ae_var 2)) ae_str))))))))))))))))))
theorem d__law_field {z : Ad} (T : Txt K mg z) (C__law_more_field : Cal false P w K mg base "_law_more_field" 1 2 [] (fun ds _ => ds) (S__law_more_field z)) {f : Addr} (cdv : Value) (A : Around) (outer : List PySem.Env) (s : Shared) (H : Hp) (E : XK) (c : Cg false (cxOf (L2.CX P w) P w K mg base N__law_field "_law_field" (defScope s__law_field) f cdv A outer s H E) E 1) :
    ASs (cxOf (L2.CX P w) P w K mg base N__law_field "_law_field" (defScope s__law_field) f cdv A outer s H E) E (defBody s__law_field) (w__law_field z) :=
  (ass_cons (as_if (at_in (ae_var 0) (ae_tup (aa_cons ae_str (aa_cons ae_str (aa_cons ae_str (aa_cons ae_str (aa_cons ae_str aa_nil))))))) (ass_one (as_ret (ae_lst false (aa_cons (ae_xfld T.xf_value (ae_var 1)) aa_nil)))) ass_nil)
    (ass_cons (as_if (at_in (ae_var 0) (ae_tup (aa_cons ae_str (aa_cons ae_str aa_nil)))) (ass_one (as_ret (ae_lst false (aa_cons (ae_xfld T.xf_place (ae_var 1)) aa_nil)))) ass_nil)
    (ass_cons (as_if (at_in (ae_var 0) (ae_tup (aa_cons ae_str (aa_cons ae_str aa_nil)))) (ass_one (as_ret (ae_lst false (aa_cons (ae_xfld T.xf_index (ae_var 1)) aa_nil)))) ass_nil)
    (ass_cons (as_if (at_in (ae_var 0) (ae_tup (aa_cons ae_str (aa_cons ae_str aa_nil)))) (ass_one (as_ret (ae_lst false (aa_cons (ae_xfld T.xf_point (ae_var 1)) aa_nil)))) ass_nil)
    (ass_cons (as_if (at_eq c (ae_var 0) ae_str) (ass_one (as_ret (ae_lst false (aa_cons (ae_xfld T.xf_line (ae_var 1)) (aa_cons (ae_xfld T.xf_word (ae_var 1)) aa_nil))))) ass_nil)
    (ass_cons (as_if (at_eq c (ae_var 0) ae_str) (ass_one (as_ret (ae_lst false (aa_cons (ae_xfld T.xf_first (ae_var 1)) (aa_cons (ae_xfld T.xf_second (ae_var 1)) aa_nil))))) ass_nil)
    (ass_cons (as_if (at_eq c (ae_var 0) ae_str) (ass_one (as_ret (ae_lst false (aa_cons (ae_xfld T.xf_command (ae_var 1)) aa_nil)))) ass_nil)
    (ass_cons (as_if (at_eq c (ae_var 0) ae_str) (ass_one (as_ret (ae_lst false (aa_cons (ae_xfld T.xf_points (ae_var 1)) aa_nil)))) ass_nil)
    (ass_cons (as_if (at_eq c (ae_var 0) ae_str) (ass_one (as_ret (ae_lst false (aa_cons (ae_xfld T.xf_length (ae_var 1)) aa_nil)))) ass_nil)
    (ass_one (as_ret (ae_call c C__law_more_field (by decide) (by decide) (aa_cons (ae_var 0) (aa_cons (ae_var 1) aa_nil))))))))))))))
theorem d__law_more_field {z : Ad} (T : Txt K mg z)  {f : Addr} (cdv : Value) (A : Around) (outer : List PySem.Env) (s : Shared) (H : Hp) (E : XK) (c : Cg false (cxOf (L2.CX P w) P w K mg base N__law_more_field "_law_more_field" (defScope s__law_more_field) f cdv A outer s H E) E 0) :
    ASs (cxOf (L2.CX P w) P w K mg base N__law_more_field "_law_more_field" (defScope s__law_more_field) f cdv A outer s H E) E (defBody s__law_more_field) (w__law_more_field z) :=
  (ass_cons (as_if (at_eq c (ae_var 0) ae_str) (ass_one (as_ret (ae_lst false (aa_cons (ae_xfld T.xf_number (ae_var 1)) aa_nil)))) ass_nil)
    (ass_cons (as_if (at_eq c (ae_var 0) ae_str) (ass_one (as_ret (ae_lst false (aa_cons (ae_xfld T.xf_limit (ae_var 1)) aa_nil)))) ass_nil)
    (ass_cons (as_if (at_eq c (ae_var 0) ae_str) (ass_one (as_ret (ae_lst false (aa_cons (ae_xfld T.xf_asked (ae_var 1)) aa_nil)))) ass_nil)
    (ass_cons (as_if (at_eq c (ae_var 0) ae_str) (ass_one (as_ret (ae_lst false (aa_cons (ae_xfld T.xf_name (ae_var 1)) aa_nil)))) ass_nil)
    (ass_one (as_ret (ae_if (at_eq c (ae_var 0) ae_str) (ae_lst false (aa_cons (ae_xfld T.xf_count (ae_var 1)) aa_nil)) (ae_lst false aa_nil))))))))
theorem d__law_heard {z : Ad} (T : Txt K mg z) (C__law_field : Cal false P w K mg base "_law_field" 2 2 [] (fun ds _ => ds) (S__law_field z)) (C__law_word : Cal false P w K mg base "_law_word" 1 1 [] (fun ds _ => ds) (S__law_word z)) {f : Addr} (d : D) (tl : Thk) (cdv : Value) (A : Around) (outer : List PySem.Env) (s : Shared) (H : Hp) (E : XK) (c : Cg false (cxOf (L2.CX P w) P w K mg base N__law_heard "_law_heard" (defScope s__law_heard) f cdv A outer s H E) E 2) (act : ActOk (cxOf (L2.CX P w) P w K mg base N__law_heard "_law_heard" (defScope s__law_heard) f cdv A outer s H E) "_law_ask" d tl) :
    ASs (cxOf (L2.CX P w) P w K mg base N__law_heard "_law_heard" (defScope s__law_heard) f cdv A outer s H E) E (defBody s__law_heard) (w__law_heard z d tl) :=
  (ass_cons (as_set 1 c.nd ae_non)
    (ass_cons (as_try 2 1 c T.xerr T.xg_EchoError T.xg_SizeError T.xg_AbsentError (fun pn xe E' tk c => (ass_one (as_ret (ae_lst false (aa_cons (act pn xe E' _ _ tk) aa_nil))))) (by decide))
    (ass_cons (as_set 3 c.nd (ae_call c C__law_word (by decide) (by decide) (aa_cons (ae_var 1) aa_nil)))
    (ass_one (as_ret (ae_bt dTupOf_ok T.z_tuple bb_tuple (aa_cons (ae_add false (ae_lst false (aa_cons (ae_var 3) aa_nil)) (ae_call c C__law_field (by decide) (by decide) (aa_cons (ae_var 3) (aa_cons (ae_var 1) aa_nil)))) aa_nil)))))))
theorem d__law_offset {z : Ad} (T : Txt K mg z) (C__law_draw : Cal false P w K mg base "_law_draw" 1 2 [] (fun ds _ => ds) (F4.S__law_draw z)) {f : Addr} (cdv : Value) (A : Around) (outer : List PySem.Env) (s : Shared) (H : Hp) (E : XK) (c : Cg false (cxOf (L2.CX P w) P w K mg base N__law_offset "_law_offset" (defScope s__law_offset) f cdv A outer s H E) E 1) :
    ASs (cxOf (L2.CX P w) P w K mg base N__law_offset "_law_offset" (defScope s__law_offset) f cdv A outer s H E) E (defBody s__law_offset) (K26.w__law_offset z) :=
  (ass_one (as_ret (ae_ix (ae_lst false (aa_cons (ae_call c C__law_draw (by decide) (by decide) (aa_cons (ae_var 0) (aa_cons ae_int aa_nil))) (aa_cons (ae_call c C__law_draw (by decide) (by decide) (aa_cons (ae_var 0) (aa_cons ae_int aa_nil))) (aa_cons (ae_sub (ae_pow ae_int ae_int) (ae_call c C__law_draw (by decide) (by decide) (aa_cons (ae_var 0) (aa_cons ae_int aa_nil)))) (aa_cons ae_int aa_nil))))) (ae_call c C__law_draw (by decide) (by decide) (aa_cons (ae_var 0) (aa_cons ae_int aa_nil))))))
theorem d__law_amount {z : Ad} (T : Txt K mg z) (C__law_draw : Cal false P w K mg base "_law_draw" 1 2 [] (fun ds _ => ds) (F4.S__law_draw z)) {f : Addr} (cdv : Value) (A : Around) (outer : List PySem.Env) (s : Shared) (H : Hp) (E : XK) (c : Cg false (cxOf (L2.CX P w) P w K mg base N__law_amount "_law_amount" (defScope s__law_amount) f cdv A outer s H E) E 1) :
    ASs (cxOf (L2.CX P w) P w K mg base N__law_amount "_law_amount" (defScope s__law_amount) f cdv A outer s H E) E (defBody s__law_amount) (K26.w__law_amount z) :=
  (ass_cons (as_set 1 c.nd (ae_lst false (aa_cons (ae_sub (ae_call c C__law_draw (by decide) (by decide) (aa_cons (ae_var 0) (aa_cons ae_int aa_nil))) ae_int) (aa_cons (ae_sub (ae_pow ae_int ae_int) (ae_call c C__law_draw (by decide) (by decide) (aa_cons (ae_var 0) (aa_cons ae_int aa_nil)))) (aa_cons (ae_sub ae_int (ae_mul false (ae_pow ae_int ae_int) (ae_pow ae_int ae_int))) (aa_cons (ae_ix (ae_lst false (aa_cons ae_int (aa_cons (ae_neg ae_int) aa_nil))) (ae_call c C__law_draw (by decide) (by decide) (aa_cons (ae_var 0) (aa_cons ae_int aa_nil)))) aa_nil))))))
    (ass_one (as_ret (ae_ix (ae_var 1) (ae_ix (ae_lst false (aa_cons ae_int (aa_cons ae_int (aa_cons ae_int (aa_cons ae_int (aa_cons ae_int (aa_cons ae_int aa_nil))))))) (ae_call c C__law_draw (by decide) (by decide) (aa_cons (ae_var 0) (aa_cons ae_int aa_nil))))))))
theorem d__law_rows {z : Ad} (T : Txt K mg z) (C__law_amount : Cal false P w K mg base "_law_amount" 2 1 [] (fun ds _ => ds) (K26.S__law_amount z)) (C__law_draw : Cal false P w K mg base "_law_draw" 1 2 [] (fun ds _ => ds) (F4.S__law_draw z)) (C__law_offset : Cal false P w K mg base "_law_offset" 2 1 [] (fun ds _ => ds) (K26.S__law_offset z)) {f : Addr} (cdv : Value) (A : Around) (outer : List PySem.Env) (s : Shared) (H : Hp) (E : XK) (c : Cg false (cxOf (L2.CX P w) P w K mg base N__law_rows "_law_rows" (defScope s__law_rows) f cdv A outer s H E) E 2) :
    ASs (cxOf (L2.CX P w) P w K mg base N__law_rows "_law_rows" (defScope s__law_rows) f cdv A outer s H E) E (defBody s__law_rows) (K26.w__law_rows z) :=
  (ass_cons (as_set 2 c.nd (ae_lst true aa_nil))
    (ass_cons (as_for c (ai_rng1 T.z_range (aa_cons (ae_call c C__law_draw (by decide) (by decide) (aa_cons (ae_var 0) (aa_cons (ae_add false (ae_var 1) ae_int) aa_nil))) aa_nil)) (ag_name 3 c.nd) (ass_cons (as_set 4 c.nd (ae_tup (aa_cons (ae_call c C__law_offset (by decide) (by decide) (aa_cons (ae_var 0) aa_nil)) (aa_cons (ae_call c C__law_amount (by decide) (by decide) (aa_cons (ae_var 0) aa_nil)) aa_nil))))
    (ass_cons (as_if (AW.at (aw_and (at_ne c (ae_var 2) (ae_lst false aa_nil)) (aw_and1 (at_eq c (ae_call c C__law_draw (by decide) (by decide) (aa_cons (ae_var 0) (aa_cons ae_int aa_nil))) ae_int)))) (ass_one (as_set 4 c.nd (ae_tup (aa_cons (ae_ix (ae_ix (ae_var 2) (ae_neg ae_int)) ae_int) (aa_cons (ae_sub ae_int (ae_ix (ae_ix (ae_var 2) (ae_neg ae_int)) ae_int)) aa_nil))))) ass_nil)
    (ass_one (as_expr (ae_append (ae_var 2) (aa_cons (ae_var 4) aa_nil)))))))
    (ass_one (as_ret (ae_var 2)))))
theorem d__law_sums {z : Ad} (T : Txt K mg z)  {f : Addr} (cdv : Value) (A : Around) (outer : List PySem.Env) (s : Shared) (H : Hp) (E : XK) (c : Cg false (cxOf (L2.CX P w) P w K mg base N__law_sums "_law_sums" (defScope s__law_sums) f cdv A outer s H E) E 0) :
    ASs (cxOf (L2.CX P w) P w K mg base N__law_sums "_law_sums" (defScope s__law_sums) f cdv A outer s H E) E (defBody s__law_sums) (w__law_sums z) :=
  (ass_cons (as_set 1 c.nd ae_dnew)
    (ass_cons (as_for c (ai_list (ae_var 0)) (ag_tup c.calm (ags_cons (ag_name 2 c.nd) (ags_cons (ag_name 3 c.nd) ags_nil))) (ass_one (as_dput c (ae_var 1) (ae_var 2) (ae_add false (ae_get2 c (ae_var 1) (ae_var 2) ae_int ⟨rfl, rfl, rfl, rfl⟩) (ae_var 3)))))
    (ass_one (as_ret (ae_bt dTupP_ok T.z_tuple bb_tuple (aa_cons (ae_lc false (own := [("_law_offset_here", 2)]) c (ai_list (ae_b (dSortD_ok (m := false) c.calm) T.z_sorted PyProof.Rows.boot_sorted (aa_cons (ae_var 1) aa_nil))) (show BlkOk N__law_sums (defScope s__law_sums) _ [("_law_offset_here", 2)] from ⟨rfl, by decide +kernel, by decide +kernel, by decide +kernel, by decide +kernel⟩) (gw_name (i := 2) (by decide)) (fun s H C cl fp => pg_name (i := 2) c.nd rfl (by first | exact Or.inl rfl | exact Or.inr rfl)) (fun s H C cl fp c => ats_one (at_ne c (ae_dget c (ae_var 1) (ae_var 2) (fun _ _ => rfl)) ae_int)) (fun s H C cl fp c => (ae_tup (aa_cons (ae_var 2) (aa_cons (ae_dget c (ae_var 1) (ae_var 2) (fun _ _ => rfl)) aa_nil))))) aa_nil))))))
theorem d__law_ledger {z : Ad} (T : Txt K mg z) (M_Ledger : MakC P w K mg base "Ledger" z.Ledger 4 (starS 1 (S_Ledger___init__ z))) {f : Addr} (cdv : Value) (A : Around) (outer : List PySem.Env) (s : Shared) (H : Hp) (E : XK) (c : Cg false (cxOf (L2.CX P w) P w K mg base N__law_ledger "_law_ledger" (defScope s__law_ledger) f cdv A outer s H E) E 5) :
    ASs (cxOf (L2.CX P w) P w K mg base N__law_ledger "_law_ledger" (defScope s__law_ledger) f cdv A outer s H E) E (defBody s__law_ledger) (w__law_ledger z) :=
  (ass_cons (as_if (at_lt (ae_b dLen_ok T.z_len bb_len (aa_cons (ae_var 0) aa_nil)) ae_int) (ass_one (as_ret (ae_if (at_neE c (ae_var 0) (ae_lst false aa_nil)) (ag_make c M_Ledger (by decide) (aa_cons (ae_ix (ae_var 0) ae_int) aa_nil)) (ag_make0 c M_Ledger (by decide))))) ass_nil)
    (ass_cons (as_if (at_eq c (ae_b dLen_ok T.z_len bb_len (aa_cons (ae_var 0) aa_nil)) ae_int) (ass_one (as_ret (ag_make c M_Ledger (by decide) (aa_cons (ae_ix (ae_var 0) ae_int) (aa_cons (ae_ix (ae_var 0) ae_int) aa_nil))))) ass_nil)
    (ass_cons (as_if (at_eq c (ae_b dLen_ok T.z_len bb_len (aa_cons (ae_var 0) aa_nil)) ae_int) (ass_one (as_ret (ag_make c M_Ledger (by decide) (aa_cons (ae_ix (ae_var 0) ae_int) (aa_cons (ae_ix (ae_var 0) ae_int) (aa_cons (ae_ix (ae_var 0) ae_int) aa_nil)))))) ass_nil)
    (ass_cons (as_if (at_eq c (ae_b dLen_ok T.z_len bb_len (aa_cons (ae_var 0) aa_nil)) ae_int) (ass_one (as_ret (ag_make c M_Ledger (by decide) (aa_cons (ae_ix (ae_var 0) ae_int) (aa_cons (ae_ix (ae_var 0) ae_int) (aa_cons (ae_ix (ae_var 0) ae_int) (aa_cons (ae_ix (ae_var 0) ae_int) aa_nil))))))) ass_nil)
    (ass_cons (as_if (at_eq c (ae_b dLen_ok T.z_len bb_len (aa_cons (ae_var 0) aa_nil)) ae_int) (ass_one (as_ret (ag_make c M_Ledger (by decide) (aa_cons (ae_ix (ae_var 0) ae_int) (aa_cons (ae_ix (ae_var 0) ae_int) (aa_cons (ae_ix (ae_var 0) ae_int) (aa_cons (ae_ix (ae_var 0) ae_int) (aa_cons (ae_ix (ae_var 0) ae_int) aa_nil)))))))) ass_nil)
    (ass_one (as_ret (ag_make c M_Ledger (by decide) (aa_cons (ae_ix (ae_var 0) ae_int) (aa_cons (ae_ix (ae_var 0) ae_int) (aa_cons (ae_ix (ae_var 0) ae_int) (aa_cons (ae_ix (ae_var 0) ae_int) (aa_cons (ae_ix (ae_var 0) ae_int) (aa_cons (ae_ix (ae_var 0) ae_int) aa_nil))))))))))))))
theorem d__law_odd {z : Ad} (T : Txt K mg z) (C__law_draw : Cal false P w K mg base "_law_draw" 1 2 [] (fun ds _ => ds) (F4.S__law_draw z)) {f : Addr} (cdv : Value) (A : Around) (outer : List PySem.Env) (s : Shared) (H : Hp) (E : XK) (c : Cg false (cxOf (L2.CX P w) P w K mg base N__law_odd "_law_odd" (defScope s__law_odd) f cdv A outer s H E) E 1) :
    ASs (cxOf (L2.CX P w) P w K mg base N__law_odd "_law_odd" (defScope s__law_odd) f cdv A outer s H E) E (defBody s__law_odd) (w__law_odd z) :=
  (ass_cons (as_set 1 c.nd (ae_lst false (aa_cons ae_non (aa_cons ae_int (aa_cons (ae_tup aa_nil) (aa_cons (ae_tup (aa_cons ae_int aa_nil)) (aa_cons (ae_tup (aa_cons ae_int (aa_cons ae_int (aa_cons ae_int aa_nil)))) (aa_cons (ae_lst false (aa_cons ae_int (aa_cons ae_int aa_nil))) (aa_cons (ae_tup (aa_cons ae_bl (aa_cons ae_int aa_nil))) (aa_cons (ae_tup (aa_cons ae_int (aa_cons ae_bl aa_nil))) (aa_cons (ae_tup (aa_cons (ae_neg ae_int) (aa_cons ae_int aa_nil))) (aa_cons (ae_tup (aa_cons (ae_add false (ae_pow ae_int ae_int) ae_int) (aa_cons ae_int aa_nil))) (aa_cons (ae_tup (aa_cons ae_str (aa_cons ae_int aa_nil))) aa_nil)))))))))))))
    (ass_one (as_ret (ae_ix (ae_add false (ae_var 1) (ae_lst false (aa_cons (ae_tup (aa_cons ae_int (aa_cons ae_str aa_nil))) (aa_cons (ae_tup (aa_cons ae_int (aa_cons ae_non aa_nil))) (aa_cons (ae_tup (aa_cons (ae_tup (aa_cons ae_int (aa_cons ae_int aa_nil))) aa_nil)) (aa_cons ae_dnewF (aa_cons (ae_tup (aa_cons (ae_lst false (aa_cons ae_int aa_nil)) (aa_cons ae_int aa_nil))) (aa_cons ae_str aa_nil)))))))) (ae_call c C__law_draw (by decide) (by decide) (aa_cons (ae_var 0) (aa_cons ae_int aa_nil)))))))
theorem d__law_refused_right {z : Ad} (T : Txt K mg z) (C__law_draw : Cal false P w K mg base "_law_draw" 1 2 [] (fun ds _ => ds) (F4.S__law_draw z)) (C__law_ledger : Cal false P w K mg base "_law_ledger" 6 1 [] (fun ds _ => ds) (S__law_ledger z)) (C__law_odd : Cal false P w K mg base "_law_odd" 2 1 [] (fun ds _ => ds) (S__law_odd z)) (H__law_heard : HCal P w K mg base false "_law_heard" 2 (S__law_heard z)) {cc : Addr} (TB : LamX.TabB base mg cc z.t0) {f : Addr} (A : Around) (outer : List PySem.Env) (s : Shared) (H : Hp) (E : XK) (c : Cg true (cxOf (L2.CX P w) P w K mg base N__law_refused_right "_law_refused_right" (defScope s__law_refused_right) f (.ref cc) A outer s H E) E 8) :
    ASs (cxOf (L2.CX P w) P w K mg base N__law_refused_right "_law_refused_right" (defScope s__law_refused_right) f (.ref cc) A outer s H E) E (defBody s__law_refused_right) (w__law_refused_right z) :=
  (ass_cons (as_set 2 c.nd (ae_call c C__law_draw (by decide) (by decide) (aa_cons (ae_var 0) (aa_cons (ae_add false (ae_b dLen_ok T.z_len bb_len (aa_cons (ae_var 1) aa_nil)) ae_int) aa_nil))))
    (ass_cons (as_set 3 c.nd (ae_add false (ae_add false (ae_sl false (ae_var 1) ao_none (ao_some (ae_var 2))) (ae_lst false (aa_cons (ae_call c C__law_odd (by decide) (by decide) (aa_cons (ae_var 0) aa_nil)) aa_nil))) (ae_sl false (ae_var 1) (ao_some (ae_var 2)) ao_none)))
    (ass_cons (as_if (at_eq c (ae_call c C__law_draw (by decide) (by decide) (aa_cons (ae_var 0) (aa_cons ae_int aa_nil))) ae_int) (ass_one (as_set 3 c.nd (ae_add false (ae_add false (ae_sl false (ae_var 3) ao_none (ao_some (ae_add false (ae_var 2) ae_int))) (ae_lst false (aa_cons (ae_call c C__law_odd (by decide) (by decide) (aa_cons (ae_var 0) aa_nil)) aa_nil))) (ae_sl false (ae_var 3) (ao_some (ae_add false (ae_var 2) ae_int)) ao_none)))) ass_nil)
    (ass_cons (as_set 3 c.nd (ae_sl false (ae_var 3) ao_none (ao_some ae_int)))
    (ass_cons (as_if (at_gt (ae_var 2) ae_int) (ass_one (as_ret ae_bl)) ass_nil)
    (ass_one (as_ret (ae_eq c (ae_b (dRepr_ok (c.gd rfl) c.room.units) T.z_repr bb_repr (aa_cons (ae_heard c H__law_heard (by decide) TB rfl (by decide) (fun A outer s H E' f c' c => (ae_call c C__law_ledger (by decide) (by decide) (aa_cons (ae_var 3) aa_nil))) (LamX.lamS_by (show LamX.lamSB (defScope s__law_refused_right) _ = true from by decide +kernel)) (by decide)) aa_nil)) (ae_b (dRepr_ok (c.gd rfl) c.room.units) T.z_repr bb_repr (aa_cons (ae_tup (aa_cons ae_str (aa_cons (ae_var 2) aa_nil))) aa_nil))))))))))
theorem d__law_told_right {z : Ad} (T : Txt K mg z) (IN_Ledger : InC P w K mg base z.Ledger 2 (S_Ledger___contains__ z)) (R_Ledger___getitem__ : IxC P w K mg base z.Ledger 1 (S_Ledger___getitem__ z)) (LN_Ledger : LenC P w K mg base z.Ledger 1 (PL.S_Ledger___len__ z)) (LN4_Ledger : LenC P w K mg base z.Ledger 1 (PL.S_Ledger___len__ z)) (R_Ledger_greatest : PrpC P w K mg base z.Ledger "greatest" 1 (PL.S_Ledger_greatest z)) (R_Ledger_rows : PrpC P w K mg base z.Ledger "rows" 1 (PL.S_Ledger_rows z)) (RP_Ledger : ReprC P w K mg base z.Ledger 3 (S_Ledger___repr__ z)) {f : Addr} (cdv : Value) (A : Around) (outer : List PySem.Env) (s : Shared) (H : Hp) (E : XK) (c : Cg true (cxOf (L2.CX P w) P w K mg base N__law_told_right "_law_told_right" (defScope s__law_told_right) f cdv A outer s H E) E 4) :
    ASs (cxOf (L2.CX P w) P w K mg base N__law_told_right "_law_told_right" (defScope s__law_told_right) f cdv A outer s H E) E (defBody s__law_told_right) (w__law_told_right z) :=
  (ass_cons (as_set 2 c.nd (ae_lst false (aa_cons (ag_prop c R_Ledger_rows (by decide) (ae_var 0)) (aa_cons (ag_prop c R_Ledger_greatest (by decide) (ae_var 0)) (aa_cons (ae_b (dLenO_ok c LN_Ledger (by decide)) T.z_len bb_len (aa_cons (ae_var 0) aa_nil)) (aa_cons (ae_bt (dBoolO_ok c LN4_Ledger (by decide)) T.z_bool bb_bool (aa_cons (ae_var 0) aa_nil)) (aa_cons (ae_b (dReprO_ok c RP_Ledger (by decide)) T.z_repr bb_repr (aa_cons (ae_var 0) aa_nil)) aa_nil)))))))
    (ass_cons (as_set 3 c.nd (ae_if (at_neET c (ae_var 1) (ae_tup aa_nil)) (ae_ix (ae_ix (ae_var 1) (ae_neg ae_int)) ae_int) ae_non))
    (ass_cons (as_if (at_ne c (ae_b (dRepr_ok (c.gd rfl) c.room.units) T.z_repr bb_repr (aa_cons (ae_var 2) aa_nil)) (ae_b (dRepr_ok (c.gd rfl) c.room.units) T.z_repr bb_repr (aa_cons (ae_lst false (aa_cons (ae_var 1) (aa_cons (ae_var 3) (aa_cons (ae_b dLen_ok T.z_len bb_len (aa_cons (ae_var 1) aa_nil)) (aa_cons (ae_neET c (ae_var 1) (ae_tup aa_nil)) (aa_cons (ae_add false (ae_add false ae_str (ae_bt dStrI_ok T.z_str bb_str (aa_cons (ae_b dLen_ok T.z_len bb_len (aa_cons (ae_var 1) aa_nil)) aa_nil))) ae_str) aa_nil)))))) aa_nil))) (ass_one (as_ret ae_bl)) ass_nil)
    (ass_cons (as_set 4 c.nd (ae_bt (dDictP_ok (m := true) c.calm) T.z_dict bb_dict (aa_cons (ae_var 1) aa_nil)))
    (ass_cons (as_for c (ai_list (ae_add false (ae_lst false (aa_cons ae_int (aa_cons ae_int (aa_cons ae_int (aa_cons ae_int (aa_cons (ae_neg ae_int) (aa_cons ae_int (aa_cons (ae_pow ae_int ae_int) (aa_cons (ae_add false (ae_pow ae_int ae_int) ae_int) (aa_cons (ae_pow ae_int ae_int) aa_nil)))))))))) (ae_bt (dListD_ok (m := false) c.calm) T.z_list bb_list (aa_cons (ae_var 4) aa_nil)))) (ag_name 5 c.nd) (ass_one (as_if (AW.at (aw_or (at_ne c (ae_b (dRepr_ok (c.gd rfl) c.room.units) T.z_repr bb_repr (aa_cons (ag_ixOwn c R_Ledger___getitem__ (by decide) (ae_var 0) (ae_var 5)) aa_nil)) (ae_b (dRepr_ok (c.gd rfl) c.room.units) T.z_repr bb_repr (aa_cons (ae_get2 c (ae_var 4) (ae_var 5) ae_int ⟨rfl, rfl, rfl, rfl⟩) aa_nil))) (aw_or1 (at_ne c (ag_inX c IN_Ledger (by decide) (ae_var 5) (ae_var 0)) (ae_din c (ae_var 5) (ae_var 4)))))) (ass_one (as_ret ae_bl)) ass_nil)))
    (ass_cons (as_set 6 c.nd (ae_lst false (aa_cons ae_non (aa_cons ae_str (aa_cons (ae_tup (aa_cons ae_int aa_nil)) (aa_cons (ae_lst false aa_nil) (aa_cons ae_dnewF (aa_cons ae_bl (aa_cons ae_bl (aa_cons (ae_tup (aa_cons ae_int (aa_cons ae_int aa_nil))) (aa_cons (ae_lst false (aa_cons ae_int aa_nil)) aa_nil)))))))))))
    (ass_one (as_ret (ae_eqE c (ae_lc false (own := [("_law_one", 7)]) c (ai_list (ae_var 6)) (show BlkOk N__law_told_right (defScope s__law_told_right) _ [("_law_one", 7)] from ⟨rfl, by decide +kernel, by decide +kernel, by decide +kernel, by decide +kernel⟩) (gw_name (i := 7) (by decide)) (fun s H C cl fp => pg_name (i := 7) c.nd rfl (by first | exact Or.inl rfl | exact Or.inr rfl)) (fun s H C cl fp c => ats_one (at_isnot (ag_inX c IN_Ledger (by decide) (ae_var 7) (ae_var 0)) ae_bl)) (fun s H C cl fp c => (ae_var 7))) (ae_lst false aa_nil))))))))))
theorem d__law_alike_right {z : Ad} (T : Txt K mg z) (C__law_ledger : Cal false P w K mg base "_law_ledger" 6 1 [] (fun ds _ => ds) (S__law_ledger z)) (C__law_sums : Cal false P w K mg base "_law_sums" 1 1 [] (fun ds _ => ds) (S__law_sums z)) (EQ_Ledger : EqC P w K mg base z.Ledger 1 (S_Ledger___eq__ z)) (EA_Ledger : EqAC P w K mg base z.Ledger 1 (S_Ledger___eq__ z)) (M_Ledger : MakC P w K mg base "Ledger" z.Ledger 4 (starS 1 (S_Ledger___init__ z))) (R_Ledger___add__ : Op2C P w K mg base z.Ledger .Add 6 (S_Ledger___add__ z)) (RP_Ledger : ReprC P w K mg base z.Ledger 3 (S_Ledger___repr__ z)) {f : Addr} (cdv : Value) (A : Around) (outer : List PySem.Env) (s : Shared) (H : Hp) (E : XK) (c : Cg true (cxOf (L2.CX P w) P w K mg base N__law_alike_right "_law_alike_right" (defScope s__law_alike_right) f cdv A outer s H E) E 6) :
    ASs (cxOf (L2.CX P w) P w K mg base N__law_alike_right "_law_alike_right" (defScope s__law_alike_right) f cdv A outer s H E) E (defBody s__law_alike_right) (w__law_alike_right z) :=
  (ass_cons (as_set 2 c.nd (ae_call c C__law_sums (by decide) (by decide) (aa_cons (ae_var 1) aa_nil)))
    (ass_cons (as_set 3 c.nd (ae_call c C__law_ledger (by decide) (by decide) (aa_cons (ae_rev false (ae_var 1)) aa_nil)))
    (ass_cons (as_set 4 c.nd (ag_own2 c R_Ledger___add__ (by decide) (ag_make c M_Ledger (by decide) (aa_cons (ae_tup (aa_cons ae_int (aa_cons ae_int aa_nil))) aa_nil)) (ae_var 0)))
    (ass_cons (as_if (at_ne c (ae_lst false (aa_cons (ag_ownEq c EQ_Ledger (by decide) (ae_var 0) (ae_var 3)) (aa_cons (ag_ownEq c EQ_Ledger (by decide) (ae_var 3) (ae_var 0)) (aa_cons (ag_ownNe c EQ_Ledger (by decide) (ae_var 0) (ae_var 3)) (aa_cons (ag_ownEq c EQ_Ledger (by decide) (ae_var 0) (ae_var 4)) (aa_cons (ag_ownNe c EQ_Ledger (by decide) (ae_var 0) (ae_var 4)) aa_nil)))))) (ae_lst false (aa_cons ae_bl (aa_cons ae_bl (aa_cons ae_bl (aa_cons ae_bl (aa_cons ae_bl aa_nil))))))) (ass_one (as_ret ae_bl)) ass_nil)
    (ass_one (as_ret (ae_eqE c (ae_lc false (own := [("_law_one", 5)]) c (ai_list (ae_lst false (aa_cons (ae_var 2) (aa_cons (ae_bt (dListOf_ok (m := false)) T.z_list bb_list (aa_cons (ae_var 2) aa_nil)) (aa_cons ae_non (aa_cons ae_int (aa_cons (ae_bt (dDictP_ok (m := true) c.calm) T.z_dict bb_dict (aa_cons (ae_var 2) aa_nil)) (aa_cons (ae_b (dReprO_ok c RP_Ledger (by decide)) T.z_repr bb_repr (aa_cons (ae_var 0) aa_nil)) aa_nil)))))))) (show BlkOk N__law_alike_right (defScope s__law_alike_right) _ [("_law_one", 5)] from ⟨rfl, by decide +kernel, by decide +kernel, by decide +kernel, by decide +kernel⟩) (gw_name (i := 5) (by decide)) (fun s H C cl fp => pg_name (i := 5) c.nd rfl (by first | exact Or.inl rfl | exact Or.inr rfl)) (fun s H C cl fp c => ats_one (AW.at (aw_or (ag_ownEqAT c EA_Ledger (by decide) (ae_var 0) (ae_var 5)) (aw_or1 (at_not (ag_ownNeAT c EA_Ledger (by decide) (ae_var 0) (ae_var 5))))))) (fun s H C cl fp c => (ae_var 5))) (ae_lst false aa_nil))))))))
theorem d__law_long_right {z : Ad} (T : Txt K mg z) (C__law_draw : Cal false P w K mg base "_law_draw" 1 2 [] (fun ds _ => ds) (F4.S__law_draw z)) (C__law_odd : Cal false P w K mg base "_law_odd" 2 1 [] (fun ds _ => ds) (S__law_odd z)) (M_Ledger : MakC P w K mg base "Ledger" z.Ledger 4 (starS 1 (S_Ledger___init__ z))) (R_Ledger_rows : PrpC P w K mg base z.Ledger "rows" 1 (PL.S_Ledger_rows z)) (H__law_heard : HCal P w K mg base false "_law_heard" 2 (S__law_heard z)) {cc : Addr} (TB : LamX.TabB base mg cc z.t1) {f : Addr} (A : Around) (outer : List PySem.Env) (s : Shared) (H : Hp) (E : XK) (c : Cg false (cxOf (L2.CX P w) P w K mg base N__law_long_right "_law_long_right" (defScope s__law_long_right) f (.ref cc) A outer s H E) E 7) :
    ASs (cxOf (L2.CX P w) P w K mg base N__law_long_right "_law_long_right" (defScope s__law_long_right) f (.ref cc) A outer s H E) E (defBody s__law_long_right) (w__law_long_right z) :=
  (ass_cons (as_set 1 c.nd (ae_lc true (own := [("_law_k", 5)]) c (ai_rng1 T.z_range (aa_cons ae_int aa_nil)) (show BlkOk N__law_long_right (defScope s__law_long_right) _ [("_law_k", 5)] from ⟨rfl, by decide +kernel, by decide +kernel, by decide +kernel, by decide +kernel⟩) (gw_name (i := 5) (by decide)) (fun s H C cl fp => pg_name (i := 5) c.nd rfl (by first | exact Or.inl rfl | exact Or.inr rfl)) (fun s H C cl fp c => ats_nil) (fun s H C cl fp c => (ae_tup (aa_cons (ae_sub ae_int (ae_var 5)) (aa_cons (ae_add false (ae_var 5) ae_int) aa_nil))))))
    (ass_cons (as_set 2 c.nd (ag_make c M_Ledger (by decide) (aa_cons (ae_ix (ae_var 1) ae_int) (aa_cons (ae_ix (ae_var 1) ae_int) (aa_cons (ae_ix (ae_var 1) ae_int) (aa_cons (ae_ix (ae_var 1) ae_int) (aa_cons (ae_ix (ae_var 1) ae_int) (aa_cons (ae_ix (ae_var 1) ae_int) (aa_cons (ae_ix (ae_var 1) ae_int) (aa_cons (ae_ix (ae_var 1) ae_int) (aa_cons (ae_ix (ae_var 1) ae_int) (aa_cons (ae_ix (ae_var 1) ae_int) aa_nil))))))))))))
    (ass_cons (as_if (at_ne c (ag_prop c R_Ledger_rows (by decide) (ae_var 2)) (ae_bt dTupOf_ok T.z_tuple bb_tuple (aa_cons (ae_lc false (own := [("_law_k", 5)]) c (ai_rng1 T.z_range (aa_cons ae_int aa_nil)) (show BlkOk N__law_long_right (defScope s__law_long_right) _ [("_law_k", 5)] from ⟨rfl, by decide +kernel, by decide +kernel, by decide +kernel, by decide +kernel⟩) (gw_name (i := 5) (by decide)) (fun s H C cl fp => pg_name (i := 5) c.nd rfl (by first | exact Or.inl rfl | exact Or.inr rfl)) (fun s H C cl fp c => ats_nil) (fun s H C cl fp c => (ae_tup (aa_cons (ae_var 5) (aa_cons (ae_sub ae_int (ae_var 5)) aa_nil))))) aa_nil))) (ass_one (as_ret ae_bl)) ass_nil)
    (ass_cons (as_set 3 c.nd (ae_add false ae_int (ae_call c C__law_draw (by decide) (by decide) (aa_cons (ae_var 0) (aa_cons ae_int aa_nil)))))
    (ass_cons (as_asg (ae_call c C__law_odd (by decide) (by decide) (aa_cons (ae_var 0) aa_nil)) (ag_subL (ae_var 1) (ae_var 3) (fun _ => rfl)))
    (ass_cons (as_set 4 c.nd (ae_heard c H__law_heard (by decide) TB rfl (by decide) (fun A outer s H E' f c' c => (ag_make c M_Ledger (by decide) (aa_cons (ae_ix (ae_var 1) ae_int) (aa_cons (ae_ix (ae_var 1) ae_int) (aa_cons (ae_ix (ae_var 1) ae_int) (aa_cons (ae_ix (ae_var 1) ae_int) (aa_cons (ae_ix (ae_var 1) ae_int) (aa_cons (ae_ix (ae_var 1) ae_int) (aa_cons (ae_ix (ae_var 1) ae_int) (aa_cons (ae_ix (ae_var 1) ae_int) (aa_cons (ae_ix (ae_var 1) ae_int) (aa_cons (ae_ix (ae_var 1) ae_int) aa_nil)))))))))))) (LamX.lamS_by (show LamX.lamSB (defScope s__law_long_right) _ = true from by decide +kernel)) (by decide)))
    (ass_one (as_ret (ae_eq c (ae_var 4) (ae_tup (aa_cons ae_str (aa_cons (ae_var 3) aa_nil))))))))))))
theorem d_law {z : Ad} (T : Txt K mg z) (C__law_alike_right : Cal true P w K mg base "_law_alike_right" 7 2 [] (fun ds _ => ds) (S__law_alike_right z)) (C__law_ledger : Cal false P w K mg base "_law_ledger" 6 1 [] (fun ds _ => ds) (S__law_ledger z)) (C__law_long_right : Cal false P w K mg base "_law_long_right" 8 1 [] (fun ds _ => ds) (S__law_long_right z)) (C__law_pen : Cal false P w K mg base "_law_pen" 1 1 [] (fun ds _ => ds) (F4.S__law_pen z)) (C__law_refused_right : Cal true P w K mg base "_law_refused_right" 9 2 [] (fun ds _ => ds) (S__law_refused_right z)) (C__law_rows : Cal false P w K mg base "_law_rows" 3 2 [] (fun ds _ => ds) (K26.S__law_rows z)) (C__law_sums : Cal false P w K mg base "_law_sums" 1 1 [] (fun ds _ => ds) (S__law_sums z)) (C__law_told_right : Cal true P w K mg base "_law_told_right" 5 2 [] (fun ds _ => ds) (S__law_told_right z)) (EQ_Ledger : EqC P w K mg base z.Ledger 1 (S_Ledger___eq__ z)) (LN_Ledger : LenC P w K mg base z.Ledger 1 (PL.S_Ledger___len__ z)) (M_Ledger : MakC P w K mg base "Ledger" z.Ledger 4 (starS 1 (S_Ledger___init__ z))) (R_Ledger_greatest : PrpC P w K mg base z.Ledger "greatest" 1 (PL.S_Ledger_greatest z)) (R_Ledger_rows : PrpC P w K mg base z.Ledger "rows" 1 (PL.S_Ledger_rows z)) {f : Addr} (cdv : Value) (A : Around) (outer : List PySem.Env) (s : Shared) (H : Hp) (E : XK) (c : Cg true (cxOf (L2.CX P w) P w K mg base N_law "law" (defScope s_law) f cdv A outer s H E) E 9) :
    ASs (cxOf (L2.CX P w) P w K mg base N_law "law" (defScope s_law) f cdv A outer s H E) E (defBody s_law) (w_law z) :=
  (ass_cons (as_set 1 c.nd (ae_call c C__law_pen (by decide) (by decide) (aa_cons (ae_var 0) aa_nil)))
    (ass_cons (as_if (at_not (at_val (ae_call c C__law_long_right (by decide) (by decide) (aa_cons (ae_var 1) aa_nil)))) (ass_one (as_ret ae_bl)) ass_nil)
    (ass_cons (as_for c (ai_rng1 T.z_range (aa_cons ae_int aa_nil)) (ag_name 2 c.nd) (ass_cons (as_set 3 c.nd (ae_call c C__law_rows (by decide) (by decide) (aa_cons (ae_var 1) (aa_cons ae_int aa_nil))))
    (ass_cons (as_set 4 c.nd (ae_bt (dListOf_ok (m := false)) T.z_list bb_list (aa_cons (ae_var 3) aa_nil)))
    (ass_cons (as_set 5 c.nd (ae_call c C__law_ledger (by decide) (by decide) (aa_cons (ae_var 3) aa_nil)))
    (ass_cons (as_if (AW.at (aw_or (at_not (at_val (ae_call c C__law_told_right (by decide) (by decide) (aa_cons (ae_var 5) (aa_cons (ae_call c C__law_sums (by decide) (by decide) (aa_cons (ae_var 3) aa_nil)) aa_nil))))) (aw_or (at_not (at_val (ae_call c C__law_alike_right (by decide) (by decide) (aa_cons (ae_var 5) (aa_cons (ae_var 3) aa_nil))))) (aw_or1 (at_ne c (ae_var 3) (ae_var 4)))))) (ass_one (as_ret ae_bl)) ass_nil)
    (ass_one (as_if (AW.at (aw_or (at_not (at_val (ae_call c C__law_refused_right (by decide) (by decide) (aa_cons (ae_var 1) (aa_cons (ae_var 3) aa_nil))))) (aw_or1 (at_not (at_val (ae_call c C__law_told_right (by decide) (by decide) (aa_cons (ae_var 5) (aa_cons (ae_call c C__law_sums (by decide) (by decide) (aa_cons (ae_var 3) aa_nil)) aa_nil)))))))) (ass_one (as_ret ae_bl)) ass_nil)))))))
    (ass_cons (as_set 6 c.nd (ag_make c M_Ledger (by decide) (aa_cons (ae_tup (aa_cons ae_int (aa_cons ae_int aa_nil))) (aa_cons (ae_tup (aa_cons ae_int (aa_cons ae_int aa_nil))) (aa_cons (ae_tup (aa_cons ae_int (aa_cons ae_int aa_nil))) (aa_cons (ae_tup (aa_cons ae_int (aa_cons ae_int aa_nil))) (aa_cons (ae_tup (aa_cons ae_int (aa_cons ae_int aa_nil))) (aa_cons (ae_tup (aa_cons ae_int (aa_cons ae_int aa_nil))) (aa_cons (ae_tup (aa_cons ae_int (aa_cons ae_int aa_nil))) (aa_cons (ae_tup (aa_cons ae_int (aa_cons (ae_neg ae_int) aa_nil))) (aa_cons (ae_tup (aa_cons ae_int (aa_cons ae_int aa_nil))) aa_nil)))))))))))
    (ass_cons (as_if (at_ne c (ag_prop c R_Ledger_rows (by decide) (ae_var 6)) (ae_tup (aa_cons (ae_tup (aa_cons ae_int (aa_cons ae_int aa_nil))) (aa_cons (ae_tup (aa_cons ae_int (aa_cons ae_int aa_nil))) (aa_cons (ae_tup (aa_cons ae_int (aa_cons ae_int aa_nil))) (aa_cons (ae_tup (aa_cons ae_int (aa_cons ae_int aa_nil))) (aa_cons (ae_tup (aa_cons ae_int (aa_cons ae_int aa_nil))) (aa_cons (ae_tup (aa_cons ae_int (aa_cons ae_int aa_nil))) (aa_cons (ae_tup (aa_cons ae_int (aa_cons ae_int aa_nil))) aa_nil))))))))) (ass_one (as_ret ae_bl)) ass_nil)
    (ass_one (as_ret (ae_and (ag_ownEq c EQ_Ledger (by decide) (ag_make c M_Ledger (by decide) (aa_cons (ae_tup (aa_cons ae_int (aa_cons ae_int aa_nil))) (aa_cons (ae_tup (aa_cons ae_int (aa_cons (ae_neg ae_int) aa_nil))) aa_nil))) (ag_make0 c M_Ledger (by decide))) (ae_and (ag_notO c LN_Ledger (by decide) (ag_make c M_Ledger (by decide) (aa_cons (ae_tup (aa_cons ae_int (aa_cons ae_int aa_nil))) aa_nil))) (ae_one (ae_eq c (ae_b (dRepr_ok (c.gd rfl) c.room.units) T.z_repr bb_repr (aa_cons (ag_prop c R_Ledger_greatest (by decide) (ag_make c M_Ledger (by decide) (aa_cons (ae_tup (aa_cons ae_int (aa_cons ae_int aa_nil))) aa_nil))) aa_nil)) ae_str)))))))))))
end
end K25
namespace K25
open PySem PySem.Spec L2 C8 DL PK PL PQ PN PB F4 PR PyProof.Rows
/-! ### what the top has written, and the law's head (printed by gen4.py) -/
theorem all_mk {l : PySem.W.OpenLaw} {w : World} {K : PySem.W.Frag} {h : Heap} {mg : Str → Option Value} {fa : Addr} (X : K.In h) (G : h.Ns mainGlobals mg) (hfa : mg "law" = some (.ref fa))
    {f0 : Addr} {od0 an0 : Option Addr} {sl0 : Array (Option Value)} {oc0 kV0 dc0 pm0 cd0 ct0 : Value}
    {f1 : Addr} {od1 an1 : Option Addr} {sl1 : Array (Option Value)} {oc1 kV1 dc1 pm1 cd1 ct1 : Value}
    {f2 : Addr} {od2 an2 : Option Addr} {sl2 : Array (Option Value)} {oc2 kV2 dc2 pm2 cd2 ct2 : Value}
    {f3 : Addr} {od3 an3 : Option Addr} {sl3 : Array (Option Value)} {oc3 kV3 dc3 pm3 cd3 ct3 : Value}
    {f4 : Addr} {od4 an4 : Option Addr} {sl4 : Array (Option Value)} {oc4 kV4 dc4 pm4 cd4 ct4 : Value}
    {f5 : Addr} {od5 an5 : Option Addr} {sl5 : Array (Option Value)} {oc5 kV5 dc5 pm5 cd5 ct5 : Value}
    {f6 : Addr} {od6 an6 : Option Addr} {sl6 : Array (Option Value)} {oc6 kV6 dc6 pm6 cd6 ct6 : Value}
    {f7 : Addr} {od7 an7 : Option Addr} {sl7 : Array (Option Value)} {oc7 kV7 dc7 pm7 cd7 ct7 : Value}
    {f8 : Addr} {od8 an8 : Option Addr} {sl8 : Array (Option Value)} {oc8 kV8 dc8 pm8 cd8 ct8 : Value}
    {f9 : Addr} {od9 an9 : Option Addr} {sl9 : Array (Option Value)} {oc9 kV9 dc9 pm9 cd9 ct9 : Value}
    {f10 : Addr} {od10 an10 : Option Addr} {sl10 : Array (Option Value)} {oc10 kV10 dc10 pm10 cd10 ct10 : Value}
    {f11 : Addr} {od11 an11 : Option Addr} {sl11 : Array (Option Value)} {oc11 kV11 dc11 pm11 cd11 ct11 : Value}
    {f12 : Addr} {od12 an12 : Option Addr} {sl12 : Array (Option Value)} {oc12 kV12 dc12 pm12 cd12 ct12 : Value}
    {f13 : Addr} {od13 an13 : Option Addr} {sl13 : Array (Option Value)} {oc13 kV13 dc13 pm13 cd13 ct13 : Value}
    {f14 : Addr} {od14 an14 : Option Addr} {sl14 : Array (Option Value)} {oc14 kV14 dc14 pm14 cd14 ct14 : Value}
    {f15 : Addr} {od15 an15 : Option Addr} {sl15 : Array (Option Value)} {oc15 kV15 dc15 pm15 cd15 ct15 : Value}
    {f16 : Addr} {od16 an16 : Option Addr} {sl16 : Array (Option Value)} {oc16 kV16 dc16 pm16 cd16 ct16 : Value}
    {f17 : Addr} {od17 an17 : Option Addr} {sl17 : Array (Option Value)} {oc17 kV17 dc17 pm17 cd17 ct17 : Value}
    {f18 : Addr} {od18 an18 : Option Addr} {sl18 : Array (Option Value)} {oc18 kV18 dc18 pm18 cd18 ct18 : Value}
    {f19 : Addr} {od19 an19 : Option Addr} {sl19 : Array (Option Value)} {oc19 kV19 dc19 pm19 cd19 ct19 : Value}
    {f20 : Addr} {od20 an20 : Option Addr} {sl20 : Array (Option Value)} {oc20 kV20 dc20 pm20 cd20 ct20 : Value}
    {f21 : Addr} {od21 an21 : Option Addr} {sl21 : Array (Option Value)} {oc21 kV21 dc21 pm21 cd21 ct21 : Value}
    {f22 : Addr} {od22 an22 : Option Addr} {sl22 : Array (Option Value)} {oc22 kV22 dc22 pm22 cd22 ct22 : Value}
    {f23 : Addr} {od23 an23 : Option Addr} {sl23 : Array (Option Value)} {oc23 kV23 dc23 pm23 cd23 ct23 : Value}
    {f24 : Addr} {od24 an24 : Option Addr} {sl24 : Array (Option Value)} {oc24 kV24 dc24 pm24 ct24 : Value}
    {f25 : Addr} {od25 an25 : Option Addr} {sl25 : Array (Option Value)} {oc25 kV25 dc25 pm25 cd25 ct25 : Value}
    {f26 : Addr} {od26 an26 : Option Addr} {sl26 : Array (Option Value)} {oc26 kV26 dc26 pm26 cd26 ct26 : Value}
    {f27 : Addr} {od27 an27 : Option Addr} {sl27 : Array (Option Value)} {oc27 kV27 dc27 pm27 ct27 : Value}
    {f28 : Addr} {od28 an28 : Option Addr} {sl28 : Array (Option Value)} {oc28 kV28 dc28 pm28 cd28 ct28 : Value}
    {f29 : Addr} {od29 an29 : Option Addr} {sl29 : Array (Option Value)} {oc29 kV29 dc29 pm29 cd29 ct29 : Value}
    {A_Ledger : Addr}
    {p4 : Addr} {rs4 : List Value}
    {p5 : Addr} {rs5 : List Value}
    {A_AbsentError A_Contradiction A_DifferentModes A_EchoError A_Finished A_Full A_InvalidAccount A_InvalidBound A_InvalidCapacity A_InvalidMode A_InvalidNumber A_InvalidProgram A_InvalidReading A_InvalidRow A_InvalidTable A_InvalidText A_Lossy A_NoName A_NoPlace A_NoPoint A_NoReading A_NothingToUndo A_SizeError A_TooLarge A_TooLong A_TooManyProcesses A_UnknownCommand : Addr}
    {xnm0 xq0 : Str} {xN0 : Addr} {xbs0 xbm0 xsb0 : List Value} {xsn0 : List Str} {xab0 : Bool} {xco0 : Option Bool} {xdd0 : Option Addr} {xk00 xk10 xk20 xk30 xk50 : Option Value}
    {cc0 tp0 : Addr} {qc0 : Value} {qd0 : Option Addr} {qv0 : Array Value} {qs0 : Array (Option Value)}
    {cc1 tp1 : Addr} {qc1 : Value} {qd1 : Option Addr} {qv1 : Array Value} {qs1 : Array (Option Value)}
    (aC0 : PySem.W.nsIn K mainGlobals "Ledger" = some (some (.ref A_Ledger))) (pg0 : PySem.W.plainGet K A_Ledger Str.empty = true) (hd0 : PySem.W.hasDictIn K A_Ledger = true) (po0 : PySem.W.plainOver K A_Ledger = true) (sa0 : PySem.W.findIn K (.ref A_Ledger) "__setattr__" = some (some (.builtin "object.__setattr__"))) (mk0 : PySem.W.makesIn K A_Ledger = true) (kc0 : PySem.W.keepIn K (.ref A_Ledger) = true) (sf0 : PySem.W.selfFirst K A_Ledger = true)
    (nf0 : PySem.W.findIn K (.ref A_Ledger) "amounts" = some none)
    (eo_Ledger : PySem.W.mroIn K A_Ledger (.type "object") = some true) (en_Ledger : PySem.W.findIn K (.ref A_Ledger) "__ne__" = some (some (.builtin "object.__ne__")))
    (sn0_0 : PySem.W.subIn K (.type "NoneType") (.ref A_Ledger) = some false) (sn0_1 : PySem.W.subIn K (.type "bool") (.ref A_Ledger) = some false) (sn0_2 : PySem.W.subIn K (.type "int") (.ref A_Ledger) = some false) (sn0_3 : PySem.W.subIn K (.type "str") (.ref A_Ledger) = some false) (sn0_4 : PySem.W.subIn K (.type "tuple") (.ref A_Ledger) = some false) (sn0_5 : PySem.W.subIn K (.type "list") (.ref A_Ledger) = some false) (sn0_6 : PySem.W.subIn K (.type "dict") (.ref A_Ledger) = some false)
    (bo0 : PySem.W.findIn K (.ref A_Ledger) "__bool__" = some none)
    (xa0 : PySem.W.nsIn K mainGlobals "AbsentError" = some (some (.ref A_AbsentError)))
    (xa1 : PySem.W.nsIn K mainGlobals "Contradiction" = some (some (.ref A_Contradiction)))
    (xa2 : PySem.W.nsIn K mainGlobals "DifferentModes" = some (some (.ref A_DifferentModes)))
    (xa3 : PySem.W.nsIn K mainGlobals "EchoError" = some (some (.ref A_EchoError)))
    (xa4 : PySem.W.nsIn K mainGlobals "Finished" = some (some (.ref A_Finished)))
    (xa5 : PySem.W.nsIn K mainGlobals "Full" = some (some (.ref A_Full)))
    (xa6 : PySem.W.nsIn K mainGlobals "InvalidAccount" = some (some (.ref A_InvalidAccount)))
    (xa7 : PySem.W.nsIn K mainGlobals "InvalidBound" = some (some (.ref A_InvalidBound)))
    (xa8 : PySem.W.nsIn K mainGlobals "InvalidCapacity" = some (some (.ref A_InvalidCapacity)))
    (xa9 : PySem.W.nsIn K mainGlobals "InvalidMode" = some (some (.ref A_InvalidMode)))
    (xa10 : PySem.W.nsIn K mainGlobals "InvalidNumber" = some (some (.ref A_InvalidNumber)))
    (xa11 : PySem.W.nsIn K mainGlobals "InvalidProgram" = some (some (.ref A_InvalidProgram)))
    (xa12 : PySem.W.nsIn K mainGlobals "InvalidReading" = some (some (.ref A_InvalidReading)))
    (xa13 : PySem.W.nsIn K mainGlobals "InvalidRow" = some (some (.ref A_InvalidRow)))
    (xa14 : PySem.W.nsIn K mainGlobals "InvalidTable" = some (some (.ref A_InvalidTable)))
    (xa15 : PySem.W.nsIn K mainGlobals "InvalidText" = some (some (.ref A_InvalidText)))
    (xa16 : PySem.W.nsIn K mainGlobals "Lossy" = some (some (.ref A_Lossy)))
    (xa17 : PySem.W.nsIn K mainGlobals "NoName" = some (some (.ref A_NoName)))
    (xa18 : PySem.W.nsIn K mainGlobals "NoPlace" = some (some (.ref A_NoPlace)))
    (xa19 : PySem.W.nsIn K mainGlobals "NoPoint" = some (some (.ref A_NoPoint)))
    (xa20 : PySem.W.nsIn K mainGlobals "NoReading" = some (some (.ref A_NoReading)))
    (xa21 : PySem.W.nsIn K mainGlobals "NothingToUndo" = some (some (.ref A_NothingToUndo)))
    (xa22 : PySem.W.nsIn K mainGlobals "SizeError" = some (some (.ref A_SizeError)))
    (xa23 : PySem.W.nsIn K mainGlobals "TooLarge" = some (some (.ref A_TooLarge)))
    (xa24 : PySem.W.nsIn K mainGlobals "TooLong" = some (some (.ref A_TooLong)))
    (xa25 : PySem.W.nsIn K mainGlobals "TooManyProcesses" = some (some (.ref A_TooManyProcesses)))
    (xa26 : PySem.W.nsIn K mainGlobals "UnknownCommand" = some (some (.ref A_UnknownCommand)))
    (xl0 : K.lookup A_InvalidRow = some (excClassObj xnm0 xq0 A_InvalidRow xN0 xbs0 xbm0 true xsn0 xsb0 xab0 xco0 xdd0 xk00 xk10 xk20 xk30 xk50 "ValueError.__new__")) (rx0 : PySem.W.excTail [.type "ValueError", .type "Exception", .type "BaseException", .type "object"] xbm0 = true) (xs0 : PySem.W.findIn K (.ref A_InvalidRow) "__setattr__" = some (some (.builtin "object.__setattr__"))) (xi0 : PySem.W.findIn K (.ref A_InvalidRow) "__init__" = some (some (.ref f29))) (xj0 : PySem.W.typeIn K (.ref f29) = some (.type "function"))
    (xn0_0 : PySem.W.findIn K (.ref A_InvalidRow) "index" = some none)
    (xb0 : PySem.W.subIn K (.ref A_InvalidRow) (.type "BaseException") = some true)
    (xy0 : PySem.W.typeIn K (.ref A_InvalidRow) = some (.type "type")) (xk0 : PySem.W.keepIn K (.ref A_InvalidRow) = true)
    (vn : PySem.W.specialIn K (.builtin "object.__class__") "__get__" = some (some (.builtin "getset_descriptor.__get__"))) (vt : PySem.W.takesIn K (.builtin "object.__class__") = some true)
    (wb0 : PySem.W.subIn K (.ref A_EchoError) (.type "BaseException") = some true) (wd0 : PySem.W.hasDictIn K A_EchoError = true) (wy0 : PySem.W.typeIn K (.ref A_EchoError) = some (.type "type"))
    (wb1 : PySem.W.subIn K (.ref A_SizeError) (.type "BaseException") = some true) (wd1 : PySem.W.hasDictIn K A_SizeError = true) (wy1 : PySem.W.typeIn K (.ref A_SizeError) = some (.type "type"))
    (wb2 : PySem.W.subIn K (.ref A_AbsentError) (.type "BaseException") = some true) (wd2 : PySem.W.hasDictIn K A_AbsentError = true) (wy2 : PySem.W.typeIn K (.ref A_AbsentError) = some (.type "type"))
    (va0 : PySem.W.findIn K (.ref A_InvalidRow) "__getattribute__" = some (some (.builtin "BaseException.__getattribute__"))) (vg0 : PySem.W.findIn K (.ref A_InvalidRow) "__getattr__" = some none) (vd0 : PySem.W.hasDictIn K A_InvalidRow = true) (vc0 : PySem.W.findIn K (.ref A_InvalidRow) "__class__" = some (some (.builtin "object.__class__"))) (vm0 : PySem.W.mroIn K A_InvalidRow (.type "object") = some true)
    (ve0_0 : PySem.W.subIn K (.ref A_InvalidRow) (.ref A_EchoError) = some true) (ve0_1 : PySem.W.subIn K (.ref A_InvalidRow) (.ref A_SizeError) = some false) (ve0_2 : PySem.W.subIn K (.ref A_InvalidRow) (.ref A_AbsentError) = some false)
    (vk0_0 : PySem.W.kitOne K (.ref A_InvalidRow) (.ref A_AbsentError) = some false) (vk0_1 : PySem.W.kitOne K (.ref A_InvalidRow) (.ref A_Contradiction) = some false) (vk0_2 : PySem.W.kitOne K (.ref A_InvalidRow) (.ref A_DifferentModes) = some false) (vk0_3 : PySem.W.kitOne K (.ref A_InvalidRow) (.ref A_EchoError) = some true) (vk0_4 : PySem.W.kitOne K (.ref A_InvalidRow) (.ref A_Finished) = some false) (vk0_5 : PySem.W.kitOne K (.ref A_InvalidRow) (.ref A_Full) = some false) (vk0_6 : PySem.W.kitOne K (.ref A_InvalidRow) (.ref A_InvalidAccount) = some false) (vk0_7 : PySem.W.kitOne K (.ref A_InvalidRow) (.ref A_InvalidBound) = some false) (vk0_8 : PySem.W.kitOne K (.ref A_InvalidRow) (.ref A_InvalidCapacity) = some false) (vk0_9 : PySem.W.kitOne K (.ref A_InvalidRow) (.ref A_InvalidMode) = some false) (vk0_10 : PySem.W.kitOne K (.ref A_InvalidRow) (.ref A_InvalidNumber) = some false) (vk0_11 : PySem.W.kitOne K (.ref A_InvalidRow) (.ref A_InvalidProgram) = some false) (vk0_12 : PySem.W.kitOne K (.ref A_InvalidRow) (.ref A_InvalidReading) = some false) (vk0_13 : PySem.W.kitOne K (.ref A_InvalidRow) (.ref A_InvalidRow) = some true) (vk0_14 : PySem.W.kitOne K (.ref A_InvalidRow) (.ref A_InvalidTable) = some false) (vk0_15 : PySem.W.kitOne K (.ref A_InvalidRow) (.ref A_InvalidText) = some false) (vk0_16 : PySem.W.kitOne K (.ref A_InvalidRow) (.type "LookupError") = some false) (vk0_17 : PySem.W.kitOne K (.ref A_InvalidRow) (.ref A_Lossy) = some false) (vk0_18 : PySem.W.kitOne K (.ref A_InvalidRow) (.ref A_NoName) = some false) (vk0_19 : PySem.W.kitOne K (.ref A_InvalidRow) (.ref A_NoPlace) = some false) (vk0_20 : PySem.W.kitOne K (.ref A_InvalidRow) (.ref A_NoPoint) = some false) (vk0_21 : PySem.W.kitOne K (.ref A_InvalidRow) (.ref A_NoReading) = some false) (vk0_22 : PySem.W.kitOne K (.ref A_InvalidRow) (.ref A_NothingToUndo) = some false) (vk0_23 : PySem.W.kitOne K (.ref A_InvalidRow) (.type "OverflowError") = some false) (vk0_24 : PySem.W.kitOne K (.ref A_InvalidRow) (.ref A_SizeError) = some false) (vk0_25 : PySem.W.kitOne K (.ref A_InvalidRow) (.ref A_TooLarge) = some false) (vk0_26 : PySem.W.kitOne K (.ref A_InvalidRow) (.ref A_TooLong) = some false) (vk0_27 : PySem.W.kitOne K (.ref A_InvalidRow) (.ref A_TooManyProcesses) = some false) (vk0_28 : PySem.W.kitOne K (.ref A_InvalidRow) (.ref A_UnknownCommand) = some false) (vk0_29 : PySem.W.kitOne K (.ref A_InvalidRow) (.type "ValueError") = some true)
    (vf0_0 : PySem.W.findIn K (.ref A_InvalidRow) "index" = some none)
    (io_n : PySem.W.specialIn K (.builtin "object.__class__") "__get__" = some (some (.builtin "getset_descriptor.__get__"))) (io_t : PySem.W.takesIn K (.builtin "object.__class__") = some true)
    (io_a0 : PySem.W.findIn K (.ref A_Ledger) "__class__" = some (some (.builtin "object.__class__"))) (io_m0 : PySem.W.mroIn K A_Ledger (.type "object") = some true)
    (ik0_0 : PySem.W.kitOne K (.ref A_Ledger) (.ref A_Ledger) = some true) (ik0_1 : PySem.W.kitOne K (.type "NoneType") (.ref A_Ledger) = some false) (ik0_2 : PySem.W.kitOne K (.type "bool") (.ref A_Ledger) = some false) (ik0_3 : PySem.W.kitOne K (.type "int") (.ref A_Ledger) = some false) (ik0_4 : PySem.W.kitOne K (.type "str") (.ref A_Ledger) = some false) (ik0_5 : PySem.W.kitOne K (.type "tuple") (.ref A_Ledger) = some false) (ik0_6 : PySem.W.kitOne K (.type "list") (.ref A_Ledger) = some false) (ik0_7 : PySem.W.kitOne K (.type "dict") (.ref A_Ledger) = some false)
    (a0 : PySem.W.nsIn K mainGlobals "is_integer" = some (some (.ref f0))) (l0 : K.lookup f0 = some ⟨oc0, od0, .func (PySem.W.fnOf "is_integer" "is_integer" (defArgs s_is_integer) (defBody s_is_integer) (defScope s_is_integer) .none kV0 dc0 pm0 an0 cd0 ct0), sl0⟩) (c0 : PySem.W.codeIn K cd0 "is_integer" = true) (k0 : PySem.W.keepIn K (.ref f0) = true)
    (a1 : PySem.W.nsIn K mainGlobals "is_between" = some (some (.ref f1))) (l1 : K.lookup f1 = some ⟨oc1, od1, .func (PySem.W.fnOf "is_between" "is_between" (defArgs s_is_between) (defBody s_is_between) (defScope s_is_between) .none kV1 dc1 pm1 an1 cd1 ct1), sl1⟩) (c1 : PySem.W.codeIn K cd1 "is_between" = true) (k1 : PySem.W.keepIn K (.ref f1) = true)
    (a2 : PySem.W.nsIn K mainGlobals "is_row" = some (some (.ref f2))) (l2 : K.lookup f2 = some ⟨oc2, od2, .func (PySem.W.fnOf "is_row" "is_row" (defArgs s_is_row) (defBody s_is_row) (defScope s_is_row) .none kV2 dc2 pm2 an2 cd2 ct2), sl2⟩) (c2 : PySem.W.codeIn K cd2 "is_row" = true) (k2 : PySem.W.keepIn K (.ref f2) = true)
    (a3_Ledger : PySem.W.findIn K (.ref A_Ledger) "__init__" = some (some (.ref f3))) (i3 : PySem.W.isFn K (.ref f3) = true) (j3 : PySem.W.fnIn K f3 = true) (l3 : K.lookup f3 = some ⟨oc3, od3, .func (PySem.W.fnOf "__init__" "Ledger.__init__" (defArgs s_Ledger___init__) (defBody s_Ledger___init__) (defScope s_Ledger___init__) .none kV3 dc3 pm3 an3 cd3 ct3), sl3⟩) (c3 : PySem.W.codeIn K cd3 "Ledger.__init__" = true) (k3 : PySem.W.keepIn K (.ref f3) = true)
    (a4_Ledger : PySem.W.findIn K (.ref A_Ledger) "rows" = some (some (.ref p4))) (pa4 : PySem.W.specialIn K (.ref p4) "__get__" = some (some (.builtin "property.__get__"))) (pb4 : PySem.W.takesIn K (.ref p4) = some true) (pc4 : PySem.W.recIn K p4 "property" = some (.ref f4 :: rs4)) (l4 : K.lookup f4 = some ⟨oc4, od4, .func (PySem.W.fnOf "rows" "Ledger.rows" (defArgs s_Ledger_rows) (defBody s_Ledger_rows) (defScope s_Ledger_rows) .none kV4 dc4 pm4 an4 cd4 ct4), sl4⟩) (c4 : PySem.W.codeIn K cd4 "Ledger.rows" = true) (k4 : PySem.W.keepIn K (.ref f4) = true)
    (a5_Ledger : PySem.W.findIn K (.ref A_Ledger) "greatest" = some (some (.ref p5))) (pa5 : PySem.W.specialIn K (.ref p5) "__get__" = some (some (.builtin "property.__get__"))) (pb5 : PySem.W.takesIn K (.ref p5) = some true) (pc5 : PySem.W.recIn K p5 "property" = some (.ref f5 :: rs5)) (l5 : K.lookup f5 = some ⟨oc5, od5, .func (PySem.W.fnOf "greatest" "Ledger.greatest" (defArgs s_Ledger_greatest) (defBody s_Ledger_greatest) (defScope s_Ledger_greatest) .none kV5 dc5 pm5 an5 cd5 ct5), sl5⟩) (c5 : PySem.W.codeIn K cd5 "Ledger.greatest" = true) (k5 : PySem.W.keepIn K (.ref f5) = true)
    (a6_Ledger : PySem.W.findIn K (.ref A_Ledger) "__getitem__" = some (some (.ref f6))) (i6 : PySem.W.isFn K (.ref f6) = true) (j6 : PySem.W.fnIn K f6 = true) (l6 : K.lookup f6 = some ⟨oc6, od6, .func (PySem.W.fnOf "__getitem__" "Ledger.__getitem__" (defArgs s_Ledger___getitem__) (defBody s_Ledger___getitem__) (defScope s_Ledger___getitem__) .none kV6 dc6 pm6 an6 cd6 ct6), sl6⟩) (c6 : PySem.W.codeIn K cd6 "Ledger.__getitem__" = true) (k6 : PySem.W.keepIn K (.ref f6) = true)
    (a7_Ledger : PySem.W.findIn K (.ref A_Ledger) "__contains__" = some (some (.ref f7))) (i7 : PySem.W.isFn K (.ref f7) = true) (j7 : PySem.W.fnIn K f7 = true) (l7 : K.lookup f7 = some ⟨oc7, od7, .func (PySem.W.fnOf "__contains__" "Ledger.__contains__" (defArgs s_Ledger___contains__) (defBody s_Ledger___contains__) (defScope s_Ledger___contains__) .none kV7 dc7 pm7 an7 cd7 ct7), sl7⟩) (c7 : PySem.W.codeIn K cd7 "Ledger.__contains__" = true) (k7 : PySem.W.keepIn K (.ref f7) = true)
    (a8_Ledger : PySem.W.findIn K (.ref A_Ledger) "__len__" = some (some (.ref f8))) (i8 : PySem.W.isFn K (.ref f8) = true) (j8 : PySem.W.fnIn K f8 = true) (l8 : K.lookup f8 = some ⟨oc8, od8, .func (PySem.W.fnOf "__len__" "Ledger.__len__" (defArgs s_Ledger___len__) (defBody s_Ledger___len__) (defScope s_Ledger___len__) .none kV8 dc8 pm8 an8 cd8 ct8), sl8⟩) (c8 : PySem.W.codeIn K cd8 "Ledger.__len__" = true) (k8 : PySem.W.keepIn K (.ref f8) = true)
    (a9_Ledger : PySem.W.findIn K (.ref A_Ledger) "__add__" = some (some (.ref f9))) (i9 : PySem.W.isFn K (.ref f9) = true) (j9 : PySem.W.fnIn K f9 = true) (l9 : K.lookup f9 = some ⟨oc9, od9, .func (PySem.W.fnOf "__add__" "Ledger.__add__" (defArgs s_Ledger___add__) (defBody s_Ledger___add__) (defScope s_Ledger___add__) .none kV9 dc9 pm9 an9 cd9 ct9), sl9⟩) (c9 : PySem.W.codeIn K cd9 "Ledger.__add__" = true) (k9 : PySem.W.keepIn K (.ref f9) = true)
    (a10_Ledger : PySem.W.findIn K (.ref A_Ledger) "__eq__" = some (some (.ref f10))) (i10 : PySem.W.isFn K (.ref f10) = true) (j10 : PySem.W.fnIn K f10 = true) (l10 : K.lookup f10 = some ⟨oc10, od10, .func (PySem.W.fnOf "__eq__" "Ledger.__eq__" (defArgs s_Ledger___eq__) (defBody s_Ledger___eq__) (defScope s_Ledger___eq__) .none kV10 dc10 pm10 an10 cd10 ct10), sl10⟩) (c10 : PySem.W.codeIn K cd10 "Ledger.__eq__" = true) (k10 : PySem.W.keepIn K (.ref f10) = true)
    (a11_Ledger : PySem.W.findIn K (.ref A_Ledger) "__repr__" = some (some (.ref f11))) (i11 : PySem.W.isFn K (.ref f11) = true) (j11 : PySem.W.fnIn K f11 = true) (l11 : K.lookup f11 = some ⟨oc11, od11, .func (PySem.W.fnOf "__repr__" "Ledger.__repr__" (defArgs s_Ledger___repr__) (defBody s_Ledger___repr__) (defScope s_Ledger___repr__) .none kV11 dc11 pm11 an11 cd11 ct11), sl11⟩) (c11 : PySem.W.codeIn K cd11 "Ledger.__repr__" = true) (k11 : PySem.W.keepIn K (.ref f11) = true)
    (a12 : PySem.W.nsIn K mainGlobals "_law_pen" = some (some (.ref f12))) (l12 : K.lookup f12 = some ⟨oc12, od12, .func (PySem.W.fnOf "_law_pen" "_law_pen" (defArgs s__law_pen) (defBody s__law_pen) (defScope s__law_pen) .none kV12 dc12 pm12 an12 cd12 ct12), sl12⟩) (c12 : PySem.W.codeIn K cd12 "_law_pen" = true) (k12 : PySem.W.keepIn K (.ref f12) = true)
    (a13 : PySem.W.nsIn K mainGlobals "_law_draw" = some (some (.ref f13))) (l13 : K.lookup f13 = some ⟨oc13, od13, .func (PySem.W.fnOf "_law_draw" "_law_draw" (defArgs s__law_draw) (defBody s__law_draw) (defScope s__law_draw) .none kV13 dc13 pm13 an13 cd13 ct13), sl13⟩) (c13 : PySem.W.codeIn K cd13 "_law_draw" = true) (k13 : PySem.W.keepIn K (.ref f13) = true)
    (a14 : PySem.W.nsIn K mainGlobals "_law_word" = some (some (.ref f14))) (l14 : K.lookup f14 = some ⟨oc14, od14, .func (PySem.W.fnOf "_law_word" "_law_word" (defArgs s__law_word) (defBody s__law_word) (defScope s__law_word) .none kV14 dc14 pm14 an14 cd14 ct14), sl14⟩) (c14 : PySem.W.codeIn K cd14 "_law_word" = true) (k14 : PySem.W.keepIn K (.ref f14) = true)
    (a15 : PySem.W.nsIn K mainGlobals "_law_field" = some (some (.ref f15))) (l15 : K.lookup f15 = some ⟨oc15, od15, .func (PySem.W.fnOf "_law_field" "_law_field" (defArgs s__law_field) (defBody s__law_field) (defScope s__law_field) .none kV15 dc15 pm15 an15 cd15 ct15), sl15⟩) (c15 : PySem.W.codeIn K cd15 "_law_field" = true) (k15 : PySem.W.keepIn K (.ref f15) = true)
    (a16 : PySem.W.nsIn K mainGlobals "_law_more_field" = some (some (.ref f16))) (l16 : K.lookup f16 = some ⟨oc16, od16, .func (PySem.W.fnOf "_law_more_field" "_law_more_field" (defArgs s__law_more_field) (defBody s__law_more_field) (defScope s__law_more_field) .none kV16 dc16 pm16 an16 cd16 ct16), sl16⟩) (c16 : PySem.W.codeIn K cd16 "_law_more_field" = true) (k16 : PySem.W.keepIn K (.ref f16) = true)
    (a17 : PySem.W.nsIn K mainGlobals "_law_heard" = some (some (.ref f17))) (l17 : K.lookup f17 = some ⟨oc17, od17, .func (PySem.W.fnOf "_law_heard" "_law_heard" (defArgs s__law_heard) (defBody s__law_heard) (defScope s__law_heard) .none kV17 dc17 pm17 an17 cd17 ct17), sl17⟩) (c17 : PySem.W.codeIn K cd17 "_law_heard" = true) (k17 : PySem.W.keepIn K (.ref f17) = true)
    (a18 : PySem.W.nsIn K mainGlobals "_law_offset" = some (some (.ref f18))) (l18 : K.lookup f18 = some ⟨oc18, od18, .func (PySem.W.fnOf "_law_offset" "_law_offset" (defArgs s__law_offset) (defBody s__law_offset) (defScope s__law_offset) .none kV18 dc18 pm18 an18 cd18 ct18), sl18⟩) (c18 : PySem.W.codeIn K cd18 "_law_offset" = true) (k18 : PySem.W.keepIn K (.ref f18) = true)
    (a19 : PySem.W.nsIn K mainGlobals "_law_amount" = some (some (.ref f19))) (l19 : K.lookup f19 = some ⟨oc19, od19, .func (PySem.W.fnOf "_law_amount" "_law_amount" (defArgs s__law_amount) (defBody s__law_amount) (defScope s__law_amount) .none kV19 dc19 pm19 an19 cd19 ct19), sl19⟩) (c19 : PySem.W.codeIn K cd19 "_law_amount" = true) (k19 : PySem.W.keepIn K (.ref f19) = true)
    (a20 : PySem.W.nsIn K mainGlobals "_law_rows" = some (some (.ref f20))) (l20 : K.lookup f20 = some ⟨oc20, od20, .func (PySem.W.fnOf "_law_rows" "_law_rows" (defArgs s__law_rows) (defBody s__law_rows) (defScope s__law_rows) .none kV20 dc20 pm20 an20 cd20 ct20), sl20⟩) (c20 : PySem.W.codeIn K cd20 "_law_rows" = true) (k20 : PySem.W.keepIn K (.ref f20) = true)
    (a21 : PySem.W.nsIn K mainGlobals "_law_sums" = some (some (.ref f21))) (l21 : K.lookup f21 = some ⟨oc21, od21, .func (PySem.W.fnOf "_law_sums" "_law_sums" (defArgs s__law_sums) (defBody s__law_sums) (defScope s__law_sums) .none kV21 dc21 pm21 an21 cd21 ct21), sl21⟩) (c21 : PySem.W.codeIn K cd21 "_law_sums" = true) (k21 : PySem.W.keepIn K (.ref f21) = true)
    (a22 : PySem.W.nsIn K mainGlobals "_law_ledger" = some (some (.ref f22))) (l22 : K.lookup f22 = some ⟨oc22, od22, .func (PySem.W.fnOf "_law_ledger" "_law_ledger" (defArgs s__law_ledger) (defBody s__law_ledger) (defScope s__law_ledger) .none kV22 dc22 pm22 an22 cd22 ct22), sl22⟩) (c22 : PySem.W.codeIn K cd22 "_law_ledger" = true) (k22 : PySem.W.keepIn K (.ref f22) = true)
    (a23 : PySem.W.nsIn K mainGlobals "_law_odd" = some (some (.ref f23))) (l23 : K.lookup f23 = some ⟨oc23, od23, .func (PySem.W.fnOf "_law_odd" "_law_odd" (defArgs s__law_odd) (defBody s__law_odd) (defScope s__law_odd) .none kV23 dc23 pm23 an23 cd23 ct23), sl23⟩) (c23 : PySem.W.codeIn K cd23 "_law_odd" = true) (k23 : PySem.W.keepIn K (.ref f23) = true)
    (a24 : PySem.W.nsIn K mainGlobals "_law_refused_right" = some (some (.ref f24))) (l24 : K.lookup f24 = some ⟨oc24, od24, .func (PySem.W.fnOf "_law_refused_right" "_law_refused_right" (defArgs s__law_refused_right) (defBody s__law_refused_right) (defScope s__law_refused_right) .none kV24 dc24 pm24 an24 (.ref cc0) ct24), sl24⟩) (c24 : PySem.W.codeIn K (.ref cc0) "_law_refused_right" = true) (k24 : PySem.W.keepIn K (.ref f24) = true) (ty0 : K.lookup cc0 = some ⟨qc0, qd0, .fields qv0, qs0⟩) (rv0 : qv0[11]? = some (.ref tp0)) (tn0 : K.lookup tp0 = none)
    (a25 : PySem.W.nsIn K mainGlobals "_law_told_right" = some (some (.ref f25))) (l25 : K.lookup f25 = some ⟨oc25, od25, .func (PySem.W.fnOf "_law_told_right" "_law_told_right" (defArgs s__law_told_right) (defBody s__law_told_right) (defScope s__law_told_right) .none kV25 dc25 pm25 an25 cd25 ct25), sl25⟩) (c25 : PySem.W.codeIn K cd25 "_law_told_right" = true) (k25 : PySem.W.keepIn K (.ref f25) = true)
    (a26 : PySem.W.nsIn K mainGlobals "_law_alike_right" = some (some (.ref f26))) (l26 : K.lookup f26 = some ⟨oc26, od26, .func (PySem.W.fnOf "_law_alike_right" "_law_alike_right" (defArgs s__law_alike_right) (defBody s__law_alike_right) (defScope s__law_alike_right) .none kV26 dc26 pm26 an26 cd26 ct26), sl26⟩) (c26 : PySem.W.codeIn K cd26 "_law_alike_right" = true) (k26 : PySem.W.keepIn K (.ref f26) = true)
    (a27 : PySem.W.nsIn K mainGlobals "_law_long_right" = some (some (.ref f27))) (l27 : K.lookup f27 = some ⟨oc27, od27, .func (PySem.W.fnOf "_law_long_right" "_law_long_right" (defArgs s__law_long_right) (defBody s__law_long_right) (defScope s__law_long_right) .none kV27 dc27 pm27 an27 (.ref cc1) ct27), sl27⟩) (c27 : PySem.W.codeIn K (.ref cc1) "_law_long_right" = true) (k27 : PySem.W.keepIn K (.ref f27) = true) (ty1 : K.lookup cc1 = some ⟨qc1, qd1, .fields qv1, qs1⟩) (rv1 : qv1[11]? = some (.ref tp1)) (tn1 : K.lookup tp1 = none)
    (a28 : PySem.W.nsIn K mainGlobals "law" = some (some (.ref f28))) (l28 : K.lookup f28 = some ⟨oc28, od28, .func (PySem.W.fnOf "law" "law" (defArgs s_law) (defBody s_law) (defScope s_law) .none kV28 dc28 pm28 an28 cd28 ct28), sl28⟩) (c28 : PySem.W.codeIn K cd28 "law" = true) (k28 : PySem.W.keepIn K (.ref f28) = true)
    (l29 : K.lookup f29 = some ⟨oc29, od29, .func (PySem.W.fnOf "__init__" "InvalidRow.__init__" (defArgs s_InvalidRow___init__) (defBody s_InvalidRow___init__) (defScope s_InvalidRow___init__) .none kV29 dc29 pm29 an29 cd29 ct29), sl29⟩) (c29 : PySem.W.codeIn K cd29 "InvalidRow.__init__" = true) (k29 : PySem.W.keepIn K (.ref f29) = true)
    (rd : [tp0, tp1].Nodup)
    (z0 : PySem.W.nsIn K mainGlobals "LookupError" = some none)
    (z1 : PySem.W.nsIn K mainGlobals "OverflowError" = some none)
    (z2 : PySem.W.nsIn K mainGlobals "ValueError" = some none)
    (z3 : PySem.W.nsIn K mainGlobals "abs" = some none)
    (z4 : PySem.W.nsIn K mainGlobals "bool" = some none)
    (z5 : PySem.W.nsIn K mainGlobals "dict" = some none)
    (z6 : PySem.W.nsIn K mainGlobals "enumerate" = some none)
    (z7 : PySem.W.nsIn K mainGlobals "int" = some none)
    (z8 : PySem.W.nsIn K mainGlobals "isinstance" = some none)
    (z9 : PySem.W.nsIn K mainGlobals "len" = some none)
    (z10 : PySem.W.nsIn K mainGlobals "list" = some none)
    (z11 : PySem.W.nsIn K mainGlobals "max" = some none)
    (z12 : PySem.W.nsIn K mainGlobals "range" = some none)
    (z13 : PySem.W.nsIn K mainGlobals "repr" = some none)
    (z14 : PySem.W.nsIn K mainGlobals "sorted" = some none)
    (z15 : PySem.W.nsIn K mainGlobals "str" = some none)
    (z16 : PySem.W.nsIn K mainGlobals "tuple" = some none)
    {t0 : Tok} (g0 : PySem.W.nsIn K mainGlobals "MOST_OFFSET" = some (some (Value.int 1000000 t0)))
    : LawT true l w K 10 63 "_law_script" mg fa ["_law_refused_right", "_law_long_right"] := by
  have e := hfa.symm.trans (PySem.W.mg_of X G a28)
  cases e
  let z : Ad := { Ledger := A_Ledger, AbsentError := A_AbsentError, Contradiction := A_Contradiction, DifferentModes := A_DifferentModes, EchoError := A_EchoError, Finished := A_Finished, Full := A_Full, InvalidAccount := A_InvalidAccount, InvalidBound := A_InvalidBound, InvalidCapacity := A_InvalidCapacity, InvalidMode := A_InvalidMode, InvalidNumber := A_InvalidNumber, InvalidProgram := A_InvalidProgram, InvalidReading := A_InvalidReading, InvalidRow := A_InvalidRow, InvalidTable := A_InvalidTable, InvalidText := A_InvalidText, Lossy := A_Lossy, NoName := A_NoName, NoPlace := A_NoPlace, NoPoint := A_NoPoint, NoReading := A_NoReading, NothingToUndo := A_NothingToUndo, SizeError := A_SizeError, TooLarge := A_TooLarge, TooLong := A_TooLong, TooManyProcesses := A_TooManyProcesses, UnknownCommand := A_UnknownCommand, t0 := tp0, t1 := tp1 }
  have xva_InvalidRow : XVal K A_InvalidRow := ⟨va0, vg0, xb0, vd0, vc0, vn, vt, vm0⟩
  have xq_0_0 : XVal K A_InvalidRow ∧ ∃ v u, ClsD (.ref A_AbsentError) v u ∧ PySem.W.kitOne K (.ref A_InvalidRow) u = some false := ⟨xva_InvalidRow, _, _, .own _, vk0_0⟩
  have xq_0_1 : XVal K A_InvalidRow ∧ ∃ v u, ClsD (.ref A_Contradiction) v u ∧ PySem.W.kitOne K (.ref A_InvalidRow) u = some false := ⟨xva_InvalidRow, _, _, .own _, vk0_1⟩
  have xq_0_2 : XVal K A_InvalidRow ∧ ∃ v u, ClsD (.ref A_DifferentModes) v u ∧ PySem.W.kitOne K (.ref A_InvalidRow) u = some false := ⟨xva_InvalidRow, _, _, .own _, vk0_2⟩
  have xq_0_3 : XVal K A_InvalidRow ∧ ∃ v u, ClsD (.ref A_EchoError) v u ∧ PySem.W.kitOne K (.ref A_InvalidRow) u = some true := ⟨xva_InvalidRow, _, _, .own _, vk0_3⟩
  have xq_0_4 : XVal K A_InvalidRow ∧ ∃ v u, ClsD (.ref A_Finished) v u ∧ PySem.W.kitOne K (.ref A_InvalidRow) u = some false := ⟨xva_InvalidRow, _, _, .own _, vk0_4⟩
  have xq_0_5 : XVal K A_InvalidRow ∧ ∃ v u, ClsD (.ref A_Full) v u ∧ PySem.W.kitOne K (.ref A_InvalidRow) u = some false := ⟨xva_InvalidRow, _, _, .own _, vk0_5⟩
  have xq_0_6 : XVal K A_InvalidRow ∧ ∃ v u, ClsD (.ref A_InvalidAccount) v u ∧ PySem.W.kitOne K (.ref A_InvalidRow) u = some false := ⟨xva_InvalidRow, _, _, .own _, vk0_6⟩
  have xq_0_7 : XVal K A_InvalidRow ∧ ∃ v u, ClsD (.ref A_InvalidBound) v u ∧ PySem.W.kitOne K (.ref A_InvalidRow) u = some false := ⟨xva_InvalidRow, _, _, .own _, vk0_7⟩
  have xq_0_8 : XVal K A_InvalidRow ∧ ∃ v u, ClsD (.ref A_InvalidCapacity) v u ∧ PySem.W.kitOne K (.ref A_InvalidRow) u = some false := ⟨xva_InvalidRow, _, _, .own _, vk0_8⟩
  have xq_0_9 : XVal K A_InvalidRow ∧ ∃ v u, ClsD (.ref A_InvalidMode) v u ∧ PySem.W.kitOne K (.ref A_InvalidRow) u = some false := ⟨xva_InvalidRow, _, _, .own _, vk0_9⟩
  have xq_0_10 : XVal K A_InvalidRow ∧ ∃ v u, ClsD (.ref A_InvalidNumber) v u ∧ PySem.W.kitOne K (.ref A_InvalidRow) u = some false := ⟨xva_InvalidRow, _, _, .own _, vk0_10⟩
  have xq_0_11 : XVal K A_InvalidRow ∧ ∃ v u, ClsD (.ref A_InvalidProgram) v u ∧ PySem.W.kitOne K (.ref A_InvalidRow) u = some false := ⟨xva_InvalidRow, _, _, .own _, vk0_11⟩
  have xq_0_12 : XVal K A_InvalidRow ∧ ∃ v u, ClsD (.ref A_InvalidReading) v u ∧ PySem.W.kitOne K (.ref A_InvalidRow) u = some false := ⟨xva_InvalidRow, _, _, .own _, vk0_12⟩
  have xq_0_13 : XVal K A_InvalidRow ∧ ∃ v u, ClsD (.ref A_InvalidRow) v u ∧ PySem.W.kitOne K (.ref A_InvalidRow) u = some true := ⟨xva_InvalidRow, _, _, .own _, vk0_13⟩
  have xq_0_14 : XVal K A_InvalidRow ∧ ∃ v u, ClsD (.ref A_InvalidTable) v u ∧ PySem.W.kitOne K (.ref A_InvalidRow) u = some false := ⟨xva_InvalidRow, _, _, .own _, vk0_14⟩
  have xq_0_15 : XVal K A_InvalidRow ∧ ∃ v u, ClsD (.ref A_InvalidText) v u ∧ PySem.W.kitOne K (.ref A_InvalidRow) u = some false := ⟨xva_InvalidRow, _, _, .own _, vk0_15⟩
  have xq_0_16 : XVal K A_InvalidRow ∧ ∃ v u, ClsD (.ty "LookupError") v u ∧ PySem.W.kitOne K (.ref A_InvalidRow) u = some false := ⟨xva_InvalidRow, _, _, .ty _, vk0_16⟩
  have xq_0_17 : XVal K A_InvalidRow ∧ ∃ v u, ClsD (.ref A_Lossy) v u ∧ PySem.W.kitOne K (.ref A_InvalidRow) u = some false := ⟨xva_InvalidRow, _, _, .own _, vk0_17⟩
  have xq_0_18 : XVal K A_InvalidRow ∧ ∃ v u, ClsD (.ref A_NoName) v u ∧ PySem.W.kitOne K (.ref A_InvalidRow) u = some false := ⟨xva_InvalidRow, _, _, .own _, vk0_18⟩
  have xq_0_19 : XVal K A_InvalidRow ∧ ∃ v u, ClsD (.ref A_NoPlace) v u ∧ PySem.W.kitOne K (.ref A_InvalidRow) u = some false := ⟨xva_InvalidRow, _, _, .own _, vk0_19⟩
  have xq_0_20 : XVal K A_InvalidRow ∧ ∃ v u, ClsD (.ref A_NoPoint) v u ∧ PySem.W.kitOne K (.ref A_InvalidRow) u = some false := ⟨xva_InvalidRow, _, _, .own _, vk0_20⟩
  have xq_0_21 : XVal K A_InvalidRow ∧ ∃ v u, ClsD (.ref A_NoReading) v u ∧ PySem.W.kitOne K (.ref A_InvalidRow) u = some false := ⟨xva_InvalidRow, _, _, .own _, vk0_21⟩
  have xq_0_22 : XVal K A_InvalidRow ∧ ∃ v u, ClsD (.ref A_NothingToUndo) v u ∧ PySem.W.kitOne K (.ref A_InvalidRow) u = some false := ⟨xva_InvalidRow, _, _, .own _, vk0_22⟩
  have xq_0_23 : XVal K A_InvalidRow ∧ ∃ v u, ClsD (.ty "OverflowError") v u ∧ PySem.W.kitOne K (.ref A_InvalidRow) u = some false := ⟨xva_InvalidRow, _, _, .ty _, vk0_23⟩
  have xq_0_24 : XVal K A_InvalidRow ∧ ∃ v u, ClsD (.ref A_SizeError) v u ∧ PySem.W.kitOne K (.ref A_InvalidRow) u = some false := ⟨xva_InvalidRow, _, _, .own _, vk0_24⟩
  have xq_0_25 : XVal K A_InvalidRow ∧ ∃ v u, ClsD (.ref A_TooLarge) v u ∧ PySem.W.kitOne K (.ref A_InvalidRow) u = some false := ⟨xva_InvalidRow, _, _, .own _, vk0_25⟩
  have xq_0_26 : XVal K A_InvalidRow ∧ ∃ v u, ClsD (.ref A_TooLong) v u ∧ PySem.W.kitOne K (.ref A_InvalidRow) u = some false := ⟨xva_InvalidRow, _, _, .own _, vk0_26⟩
  have xq_0_27 : XVal K A_InvalidRow ∧ ∃ v u, ClsD (.ref A_TooManyProcesses) v u ∧ PySem.W.kitOne K (.ref A_InvalidRow) u = some false := ⟨xva_InvalidRow, _, _, .own _, vk0_27⟩
  have xq_0_28 : XVal K A_InvalidRow ∧ ∃ v u, ClsD (.ref A_UnknownCommand) v u ∧ PySem.W.kitOne K (.ref A_InvalidRow) u = some false := ⟨xva_InvalidRow, _, _, .own _, vk0_28⟩
  have xq_0_29 : XVal K A_InvalidRow ∧ ∃ v u, ClsD (.ty "ValueError") v u ∧ PySem.W.kitOne K (.ref A_InvalidRow) u = some true := ⟨xva_InvalidRow, _, _, .ty _, vk0_29⟩
  have T : Txt K mg z := ⟨⟨pg0, hd0, po0, sa0⟩, nf0, ⟨⟨pg0, hd0, po0, sa0⟩, io_a0, io_n, io_t, io_m0⟩, cst_ref (PySem.W.mg_of X G aC0), (fun p hp => by unfold PK.ii_Ledger at hp; (try unfold PK.tys at hp); simp only [List.mem_cons, List.not_mem_nil, or_false] at hp; rcases hp with rfl | rfl | rfl | rfl | rfl | rfl | rfl | rfl <;> first | exact .inr ⟨_, rfl, ⟨⟨pg0, hd0, po0, sa0⟩, io_a0, io_n, io_t, io_m0⟩, ik0_0⟩ | exact .inl ⟨_, rfl, ik0_1⟩ | exact .inl ⟨_, rfl, ik0_2⟩ | exact .inl ⟨_, rfl, ik0_3⟩ | exact .inl ⟨_, rfl, ik0_4⟩ | exact .inl ⟨_, rfl, ik0_5⟩ | exact .inl ⟨_, rfl, ik0_6⟩ | exact .inl ⟨_, rfl, ik0_7⟩), cst_ref (PySem.W.mg_of X G xa0), cst_ref (PySem.W.mg_of X G xa1), cst_ref (PySem.W.mg_of X G xa2), cst_ref (PySem.W.mg_of X G xa3), cst_ref (PySem.W.mg_of X G xa4), cst_ref (PySem.W.mg_of X G xa5), cst_ref (PySem.W.mg_of X G xa6), cst_ref (PySem.W.mg_of X G xa7), cst_ref (PySem.W.mg_of X G xa8), cst_ref (PySem.W.mg_of X G xa9), cst_ref (PySem.W.mg_of X G xa10), cst_ref (PySem.W.mg_of X G xa11), cst_ref (PySem.W.mg_of X G xa12), cst_ref (PySem.W.mg_of X G xa13), cst_ref (PySem.W.mg_of X G xa14), cst_ref (PySem.W.mg_of X G xa15), cst_ref (PySem.W.mg_of X G xa16), cst_ref (PySem.W.mg_of X G xa17), cst_ref (PySem.W.mg_of X G xa18), cst_ref (PySem.W.mg_of X G xa19), cst_ref (PySem.W.mg_of X G xa20), cst_ref (PySem.W.mg_of X G xa21), cst_ref (PySem.W.mg_of X G xa22), cst_ref (PySem.W.mg_of X G xa23), cst_ref (PySem.W.mg_of X G xa24), cst_ref (PySem.W.mg_of X G xa25), cst_ref (PySem.W.mg_of X G xa26), PySem.W.mg_of X G xa3, PySem.W.mg_of X G xa22, PySem.W.mg_of X G xa0, (fun C hC => by (try unfold errs at hC); (try unfold xtab at hC); simp only [List.mem_cons, List.not_mem_nil, or_false] at hC; rcases hC with rfl <;> first | exact exm3_of (PySem.W.exm_ref wb0 wd0 wy0 ve0_0) (PySem.W.exm_ref wb1 wd1 wy1 ve0_1) (PySem.W.exm_ref wb2 wd2 wy2 ve0_2) rfl), (fun C hC => by (try unfold errs at hC); (try unfold xtab at hC); simp only [List.mem_cons, List.not_mem_nil, or_false] at hC; rcases hC with rfl | rfl | rfl | rfl | rfl | rfl | rfl | rfl | rfl | rfl | rfl | rfl | rfl | rfl | rfl | rfl | rfl | rfl | rfl | rfl | rfl | rfl | rfl | rfl | rfl | rfl | rfl | rfl | rfl | rfl <;> first | exact xq_0_0 | exact xq_0_1 | exact xq_0_2 | exact xq_0_3 | exact xq_0_4 | exact xq_0_5 | exact xq_0_6 | exact xq_0_7 | exact xq_0_8 | exact xq_0_9 | exact xq_0_10 | exact xq_0_11 | exact xq_0_12 | exact xq_0_13 | exact xq_0_14 | exact xq_0_15 | exact xq_0_16 | exact xq_0_17 | exact xq_0_18 | exact xq_0_19 | exact xq_0_20 | exact xq_0_21 | exact xq_0_22 | exact xq_0_23 | exact xq_0_24 | exact xq_0_25 | exact xq_0_26 | exact xq_0_27 | exact xq_0_28 | exact xq_0_29), (fun C hC => by cases hC), (fun C hC => by cases hC), (fun C hC => by cases hC), (fun C hC => by cases hC), (fun C hC => by (try unfold errs at hC); (try unfold xtab at hC); simp only [List.mem_cons, List.not_mem_nil, or_false] at hC; rcases hC with rfl <;> first | exact ⟨xva_InvalidRow, vf0_0⟩), (fun C hC => by cases hC), (fun C hC => by cases hC), (fun C hC => by cases hC), (fun C hC => by cases hC), (fun C hC => by cases hC), (fun C hC => by cases hC), (fun C hC => by cases hC), (fun C hC => by cases hC), (fun C hC => by cases hC), (fun C hC => by cases hC), (fun C hC => by cases hC), PySem.W.mg_none_of X G z0, PySem.W.mg_none_of X G z1, PySem.W.mg_none_of X G z2, PySem.W.mg_none_of X G z3, PySem.W.mg_none_of X G z4, PySem.W.mg_none_of X G z5, PySem.W.mg_none_of X G z6, PySem.W.mg_none_of X G z7, PySem.W.mg_none_of X G z8, PySem.W.mg_none_of X G z9, PySem.W.mg_none_of X G z10, PySem.W.mg_none_of X G z11, PySem.W.mg_none_of X G z12, PySem.W.mg_none_of X G z13, PySem.W.mg_none_of X G z14, PySem.W.mg_none_of X G z15, PySem.W.mg_none_of X G z16, cst_int (PySem.W.mg_of X G g0)⟩
  have Fu0 := fun_mk (st := s_is_integer) l0 c0 k0
  have Fu1 := fun_mk (st := s_is_between) l1 c1 k1
  have Fu2 := fun_mk (st := s_is_row) l2 c2 k2
  have Fu3 := fun_mk (st := s_Ledger___init__) l3 c3 k3
  have Fu4 := fun_mk (st := s_Ledger_rows) l4 c4 k4
  have Fu5 := fun_mk (st := s_Ledger_greatest) l5 c5 k5
  have Fu6 := fun_mk (st := s_Ledger___getitem__) l6 c6 k6
  have Fu7 := fun_mk (st := s_Ledger___contains__) l7 c7 k7
  have Fu8 := fun_mk (st := s_Ledger___len__) l8 c8 k8
  have Fu9 := fun_mk (st := s_Ledger___add__) l9 c9 k9
  have Fu10 := fun_mk (st := s_Ledger___eq__) l10 c10 k10
  have Fu11 := fun_mk (st := s_Ledger___repr__) l11 c11 k11
  have Fu12 := fun_mk (st := s__law_pen) l12 c12 k12
  have Fu13 := fun_mk (st := s__law_draw) l13 c13 k13
  have Fu14 := fun_mk (st := s__law_word) l14 c14 k14
  have Fu15 := fun_mk (st := s__law_field) l15 c15 k15
  have Fu16 := fun_mk (st := s__law_more_field) l16 c16 k16
  have Fu17 := fun_mk (st := s__law_heard) l17 c17 k17
  have Fu18 := fun_mk (st := s__law_offset) l18 c18 k18
  have Fu19 := fun_mk (st := s__law_amount) l19 c19 k19
  have Fu20 := fun_mk (st := s__law_rows) l20 c20 k20
  have Fu21 := fun_mk (st := s__law_sums) l21 c21 k21
  have Fu22 := fun_mk (st := s__law_ledger) l22 c22 k22
  have Fu23 := fun_mk (st := s__law_odd) l23 c23 k23
  have Fu24 := fun_mk (st := s__law_refused_right) l24 c24 k24
  have Fu25 := fun_mk (st := s__law_told_right) l25 c25 k25
  have Fu26 := fun_mk (st := s__law_alike_right) l26 c26 k26
  have Fu27 := fun_mk (st := s__law_long_right) l27 c27 k27
  have Fu28 := fun_mk (st := s_law) l28 c28 k28
  have Fu29 := fun_mk (st := s_InvalidRow___init__) l29 c29 k29
  refine ⟨⟨PySem.W.fnOf "law" "law" (defArgs s_law) (defBody s_law) (defScope s_law) .none kV28 dc28 pm28 an28 cd28 ct28, S_law z, [("_law_refused_right", cc0, tp0, (("_law_refused_right" : Str) ++ ".<locals>." ++ "<lambda>")), ("_law_long_right", cc1, tp1, (("_law_long_right" : Str) ++ ".<locals>." ++ "<lambda>"))], fun s v => .of_eq rfl, ?_, fun js h hl ht => law_at z js h hl ⟨ht ("_law_refused_right", cc0, tp0, (("_law_refused_right" : Str) ++ ".<locals>." ++ "<lambda>")) (by simp), ht ("_law_long_right", cc1, tp1, (("_law_long_right" : Str) ++ ".<locals>." ++ "<lambda>")) (by simp)⟩, rd, fun base _ _ TBs => ?_⟩⟩
  · intro p hp
    simp only [List.mem_cons, List.not_mem_nil, or_false] at hp
    rcases hp with rfl | rfl
    · exact ⟨by simp, tabIn_of a24 l24 rfl ty0 rv0, tn0⟩
    · exact ⟨by simp, tabIn_of a27 l27 rfl ty1 rv1, tn1⟩
  have TB__law_refused_right : LamX.TabB base mg cc0 z.t0 := TBs ("_law_refused_right", cc0, tp0, (("_law_refused_right" : Str) ++ ".<locals>." ++ "<lambda>")) (by simp)
  have TB__law_long_right : LamX.TabB base mg cc1 z.t1 := TBs ("_law_long_right", cc1, tp1, (("_law_long_right" : Str) ++ ".<locals>." ++ "<lambda>")) (by simp)
  have FC__law_refused_right := FunC.of Fu24 (cc := cc0) rfl
  have FC__law_long_right := FunC.of Fu27 (cc := cc1) rfl
  have X_InvalidRow : XMk l.prog w K mg base "InvalidRow" z.InvalidRow 1 ["index"] := ⟨⟨f29, _, _, xi0, xj0, xinit1 (k := 0) Fu29 sc_InvalidRow___init__ (by first | exact Or.inl rfl | exact Or.inr (Or.inl rfl)) (by first | exact Or.inl rfl | exact Or.inr (Or.inl rfl)) rfl, Fu29.binds (ps := ["self", "index"]) fun _ _ _ _ _ _ us hl => match us, hl with | [_, _], _ => rfl⟩, ⟨⟨_, _, _, _, _, _, _, _, _, _, _, _, _, _, _, _, _, _, _, PySem.F.excBase_ValueError, xl0, rx0, PySem.F.store_ValueError.passes, by decide⟩, xs0, xb0, xy0, xk0⟩, PySem.W.mg_of X G xa13, by intro f hf; simp only [List.mem_cons, List.not_mem_nil, or_false] at hf; rcases hf with rfl <;> first | exact xn0_0, by decide⟩
  have G0 : FnG false l.prog w K mg base 1 f0 _ ["value"] (PK.S_is_integer z) := fng_of Fu0 sc_is_integer (PK.len_is_integer z) (PK.mo_is_integer z) (fun cdv A outer s H E c => d_is_integer T  cdv A outer s H E c) (PK.p_is_integer z)
  have C_is_integer : Cal false l.prog w K mg base "is_integer" 1 1 [] (fun ds _ => ds) (PK.S_is_integer z) := ⟨⟨f0, _, _, PySem.W.mg_of X G a0, k0, G0, (Bnd.plain fun us hl => match us, hl with | [_], _ => rfl)⟩⟩
  have G4 : FnG false l.prog w K mg base 1 f4 _ ["self"] (PL.S_Ledger_rows z) := fng_of Fu4 sc_Ledger_rows (PL.len_Ledger_rows z) (PL.mo_Ledger_rows z) (fun cdv A outer s H E c => d_Ledger_rows T  cdv A outer s H E c) (PL.p_Ledger_rows z)
  have R_Ledger_rows : PrpC l.prog w K mg base z.Ledger "rows" 1 (PL.S_Ledger_rows z) := ⟨T.k_Ledger, p4, f4, _, _, ⟨a4_Ledger, pa4, pb4, ⟨_, pc4⟩⟩, G4, Fu4.binds (ps := ["self"]) fun _ _ _ _ _ _ us hl => match us, hl with | [_], _ => rfl⟩
  have G5 : FnG false l.prog w K mg base 1 f5 _ ["self"] (PL.S_Ledger_greatest z) := fng_of Fu5 sc_Ledger_greatest (PL.len_Ledger_greatest z) (PL.mo_Ledger_greatest z) (fun cdv A outer s H E c => d_Ledger_greatest T  cdv A outer s H E c) (PL.p_Ledger_greatest z)
  have R_Ledger_greatest : PrpC l.prog w K mg base z.Ledger "greatest" 1 (PL.S_Ledger_greatest z) := ⟨T.k_Ledger, p5, f5, _, _, ⟨a5_Ledger, pa5, pb5, ⟨_, pc5⟩⟩, G5, Fu5.binds (ps := ["self"]) fun _ _ _ _ _ _ us hl => match us, hl with | [_], _ => rfl⟩
  have G6 : FnG false l.prog w K mg base 1 f6 _ ["self", "offset"] (S_Ledger___getitem__ z) := fng_of Fu6 sc_Ledger___getitem__ (len_Ledger___getitem__ z) (mo_Ledger___getitem__ z) (fun cdv A outer s H E c => d_Ledger___getitem__ T  cdv A outer s H E c) (p_Ledger___getitem__ z)
  have R_Ledger___getitem__ : IxC l.prog w K mg base z.Ledger 1 (S_Ledger___getitem__ z) := ⟨⟨f6, a6_Ledger, j6, i6, frd_plain G6 (Bnd.plain fun us hl => match us, hl with | [_, _], _ => rfl)⟩, (mo_Ledger___getitem__ z)⟩
  have G8 : FnG false l.prog w K mg base 1 f8 _ ["self"] (PL.S_Ledger___len__ z) := fng_of Fu8 sc_Ledger___len__ (PL.len_Ledger___len__ z) (PL.mo_Ledger___len__ z) (fun cdv A outer s H E c => d_Ledger___len__ T  cdv A outer s H E c) (PL.p_Ledger___len__ z)
  have LN_Ledger : LenC l.prog w K mg base z.Ledger 1 (PL.S_Ledger___len__ z) := ⟨⟨f8, bo0, a8_Ledger, i8, frd_plain G8 (Bnd.plain fun us hl => match us, hl with | [_], _ => rfl)⟩, (PL.mo_Ledger___len__ z)⟩
  have LN4_Ledger : LenC l.prog w K mg base z.Ledger 1 (PL.S_Ledger___len__ z) := ⟨⟨f8, bo0, a8_Ledger, i8, frd_plain G8 (Bnd.plain fun us hl => match us, hl with | [_], _ => rfl)⟩, (PL.mo_Ledger___len__ z)⟩
  have G10 : FnG false l.prog w K mg base 1 f10 _ ["self", "other"] (S_Ledger___eq__ z) := fng_of Fu10 sc_Ledger___eq__ (len_Ledger___eq__ z) (mo_Ledger___eq__ z) (fun cdv A outer s H E c => d_Ledger___eq__ T  cdv A outer s H E c) (p_Ledger___eq__ z)
  have EQ_Ledger : EqC l.prog w K mg base z.Ledger 1 (S_Ledger___eq__ z) := ⟨⟨f10, a10_Ledger, i10, eo_Ledger, en_Ledger, frd_plain G10 (Bnd.plain fun us hl => match us, hl with | [_, _], _ => rfl)⟩, (mo_Ledger___eq__ z)⟩
  have EA_Ledger : EqAC l.prog w K mg base z.Ledger 1 (S_Ledger___eq__ z) := ⟨⟨⟨f10, a10_Ledger, i10, eo_Ledger, en_Ledger, frd_plain G10 (Bnd.plain fun us hl => match us, hl with | [_, _], _ => rfl)⟩, (mo_Ledger___eq__ z)⟩, T.i_Ledger, by unfold tyNs; simp only [List.mem_cons, List.not_mem_nil, or_false]; intro n hn; rcases hn with rfl | rfl | rfl | rfl | rfl | rfl | rfl; exact sn0_0; exact sn0_1; exact sn0_2; exact sn0_3; exact sn0_4; exact sn0_5; exact sn0_6⟩
  have G12 : FnG false l.prog w K mg base 1 f12 _ ["_law_script"] (F4.S__law_pen z) := fng_of Fu12 sc__law_pen (F4.len__law_pen z) (F4.mo__law_pen z) (fun cdv A outer s H E c => d__law_pen T  cdv A outer s H E c) (F4.p__law_pen z)
  have C__law_pen : Cal false l.prog w K mg base "_law_pen" 1 1 [] (fun ds _ => ds) (F4.S__law_pen z) := ⟨⟨f12, _, _, PySem.W.mg_of X G a12, k12, G12, (Bnd.plain fun us hl => match us, hl with | [_], _ => rfl)⟩⟩
  have G13 : FnG false l.prog w K mg base 1 f13 _ ["_law_pen_here", "_law_many"] (F4.S__law_draw z) := fng_of Fu13 sc__law_draw (F4.len__law_draw z) (F4.mo__law_draw z) (fun cdv A outer s H E c => d__law_draw T  cdv A outer s H E c) (F4.p__law_draw z)
  have C__law_draw : Cal false l.prog w K mg base "_law_draw" 1 2 [] (fun ds _ => ds) (F4.S__law_draw z) := ⟨⟨f13, _, _, PySem.W.mg_of X G a13, k13, G13, (Bnd.plain fun us hl => match us, hl with | [_, _], _ => rfl)⟩⟩
  have G14 : FnG false l.prog w K mg base 1 f14 _ ["_law_it"] (S__law_word z) := fng_of Fu14 sc__law_word (len__law_word z) (mo__law_word z) (fun cdv A outer s H E c => d__law_word T  cdv A outer s H E c) (p__law_word z)
  have C__law_word : Cal false l.prog w K mg base "_law_word" 1 1 [] (fun ds _ => ds) (S__law_word z) := ⟨⟨f14, _, _, PySem.W.mg_of X G a14, k14, G14, (Bnd.plain fun us hl => match us, hl with | [_], _ => rfl)⟩⟩
  have G16 : FnG false l.prog w K mg base 1 f16 _ ["_law_word_here", "_law_it"] (S__law_more_field z) := fng_of Fu16 sc__law_more_field (len__law_more_field z) (mo__law_more_field z) (fun cdv A outer s H E c => d__law_more_field T  cdv A outer s H E c) (p__law_more_field z)
  have C__law_more_field : Cal false l.prog w K mg base "_law_more_field" 1 2 [] (fun ds _ => ds) (S__law_more_field z) := ⟨⟨f16, _, _, PySem.W.mg_of X G a16, k16, G16, (Bnd.plain fun us hl => match us, hl with | [_, _], _ => rfl)⟩⟩
  have G21 : FnG false l.prog w K mg base 1 f21 _ ["_law_rows_here"] (S__law_sums z) := fng_of Fu21 sc__law_sums (len__law_sums z) (mo__law_sums z) (fun cdv A outer s H E c => d__law_sums T  cdv A outer s H E c) (p__law_sums z)
  have C__law_sums : Cal false l.prog w K mg base "_law_sums" 1 1 [] (fun ds _ => ds) (S__law_sums z) := ⟨⟨f21, _, _, PySem.W.mg_of X G a21, k21, G21, (Bnd.plain fun us hl => match us, hl with | [_], _ => rfl)⟩⟩
  have G1 : FnG false l.prog w K mg base 2 f1 _ ["value", "least", "most"] (PK.S_is_between z) := fng_of Fu1 sc_is_between (PK.len_is_between z) (PK.mo_is_between z) (fun cdv A outer s H E c => d_is_between T C_is_integer cdv A outer s H E c) (PK.p_is_between z)
  have C_is_between : Cal false l.prog w K mg base "is_between" 2 3 [] (fun ds _ => ds) (PK.S_is_between z) := ⟨⟨f1, _, _, PySem.W.mg_of X G a1, k1, G1, (Bnd.plain fun us hl => match us, hl with | [_, _, _], _ => rfl)⟩⟩
  have G7 : FnG false l.prog w K mg base 2 f7 _ ["self", "value"] (S_Ledger___contains__ z) := fng_of Fu7 sc_Ledger___contains__ (len_Ledger___contains__ z) (mo_Ledger___contains__ z) (fun cdv A outer s H E c => d_Ledger___contains__ T C_is_integer cdv A outer s H E c) (p_Ledger___contains__ z)
  have IN_Ledger : InC l.prog w K mg base z.Ledger 2 (S_Ledger___contains__ z) := ⟨⟨f7, a7_Ledger, i7, frd_plain G7 (Bnd.plain fun us hl => match us, hl with | [_, _], _ => rfl)⟩, (mo_Ledger___contains__ z)⟩
  have G15 : FnG false l.prog w K mg base 2 f15 _ ["_law_word_here", "_law_it"] (S__law_field z) := fng_of Fu15 sc__law_field (len__law_field z) (mo__law_field z) (fun cdv A outer s H E c => d__law_field T C__law_more_field cdv A outer s H E c) (p__law_field z)
  have C__law_field : Cal false l.prog w K mg base "_law_field" 2 2 [] (fun ds _ => ds) (S__law_field z) := ⟨⟨f15, _, _, PySem.W.mg_of X G a15, k15, G15, (Bnd.plain fun us hl => match us, hl with | [_, _], _ => rfl)⟩⟩
  have G18 : FnG false l.prog w K mg base 2 f18 _ ["_law_pen_here"] (K26.S__law_offset z) := fng_of Fu18 sc__law_offset (K26.len__law_offset z) (K26.mo__law_offset z) (fun cdv A outer s H E c => d__law_offset T C__law_draw cdv A outer s H E c) (K26.p__law_offset z)
  have C__law_offset : Cal false l.prog w K mg base "_law_offset" 2 1 [] (fun ds _ => ds) (K26.S__law_offset z) := ⟨⟨f18, _, _, PySem.W.mg_of X G a18, k18, G18, (Bnd.plain fun us hl => match us, hl with | [_], _ => rfl)⟩⟩
  have G19 : FnG false l.prog w K mg base 2 f19 _ ["_law_pen_here"] (K26.S__law_amount z) := fng_of Fu19 sc__law_amount (K26.len__law_amount z) (K26.mo__law_amount z) (fun cdv A outer s H E c => d__law_amount T C__law_draw cdv A outer s H E c) (K26.p__law_amount z)
  have C__law_amount : Cal false l.prog w K mg base "_law_amount" 2 1 [] (fun ds _ => ds) (K26.S__law_amount z) := ⟨⟨f19, _, _, PySem.W.mg_of X G a19, k19, G19, (Bnd.plain fun us hl => match us, hl with | [_], _ => rfl)⟩⟩
  have G23 : FnG false l.prog w K mg base 2 f23 _ ["_law_pen_here"] (S__law_odd z) := fng_of Fu23 sc__law_odd (len__law_odd z) (mo__law_odd z) (fun cdv A outer s H E c => d__law_odd T C__law_draw cdv A outer s H E c) (p__law_odd z)
  have C__law_odd : Cal false l.prog w K mg base "_law_odd" 2 1 [] (fun ds _ => ds) (S__law_odd z) := ⟨⟨f23, _, _, PySem.W.mg_of X G a23, k23, G23, (Bnd.plain fun us hl => match us, hl with | [_], _ => rfl)⟩⟩
  have G2 : FnG false l.prog w K mg base 3 f2 _ ["value"] (S_is_row z) := fng_of Fu2 sc_is_row (len_is_row z) (mo_is_row z) (fun cdv A outer s H E c => d_is_row T C_is_between C_is_integer cdv A outer s H E c) (p_is_row z)
  have C_is_row : Cal false l.prog w K mg base "is_row" 3 1 [] (fun ds _ => ds) (S_is_row z) := ⟨⟨f2, _, _, PySem.W.mg_of X G a2, k2, G2, (Bnd.plain fun us hl => match us, hl with | [_], _ => rfl)⟩⟩
  have G11 : FnG false l.prog w K mg base 3 f11 _ ["self"] (S_Ledger___repr__ z) := fng_of Fu11 sc_Ledger___repr__ (len_Ledger___repr__ z) (mo_Ledger___repr__ z) (fun cdv A outer s H E c => d_Ledger___repr__ T LN_Ledger cdv A outer s H E c) (p_Ledger___repr__ z)
  have RP_Ledger : ReprC l.prog w K mg base z.Ledger 3 (S_Ledger___repr__ z) := ⟨⟨f11, a11_Ledger, i11, frd_plain G11 (Bnd.plain fun us hl => match us, hl with | [_], _ => rfl)⟩, (mo_Ledger___repr__ z)⟩
  have H__law_heard : HCal l.prog w K mg base false "_law_heard" 2 (S__law_heard z) := ⟨⟨f17, _, s__law_heard, N__law_heard, "_law_ask", w__law_heard z, PySem.W.mg_of X G a17, Fu17, sc__law_heard, rfl, by first | exact Or.inl rfl | exact Or.inr (Or.inl rfl), by decide, by decide, fun s v => .of_eq rfl, fun d tl hm cdv A outer s H E c act => d__law_heard T C__law_field C__law_word d tl cdv A outer s H E c act, p__law_heard z⟩, mo__law_heard z⟩
  have G20 : FnG false l.prog w K mg base 3 f20 _ ["_law_pen_here", "_law_most"] (K26.S__law_rows z) := fng_of Fu20 sc__law_rows (K26.len__law_rows z) (K26.mo__law_rows z) (fun cdv A outer s H E c => d__law_rows T C__law_amount C__law_draw C__law_offset cdv A outer s H E c) (K26.p__law_rows z)
  have C__law_rows : Cal false l.prog w K mg base "_law_rows" 3 2 [] (fun ds _ => ds) (K26.S__law_rows z) := ⟨⟨f20, _, _, PySem.W.mg_of X G a20, k20, G20, (Bnd.plain fun us hl => match us, hl with | [_, _], _ => rfl)⟩⟩
  have G3 : FnRD l.prog w K mg base 4 f3 (starS 1 (S_Ledger___init__ z)) := frd_star (ps := ["self"]) (pv := "rows") Fu3 sc_Ledger___init__ (len_Ledger___init__ z) (mo_Ledger___init__ z) (fun kV doc pm an cdv ct us rest hl => match us, rest, hl with | [_], [], _ => rfl | [_], _ :: _, _ => rfl) (fun cdv A outer s H E c => d_Ledger___init__ T C_is_row X_InvalidRow cdv A outer s H E c) (p_Ledger___init__ z)
  have M_Ledger : MakC l.prog w K mg base "Ledger" z.Ledger 4 (starS 1 (S_Ledger___init__ z)) := ⟨⟨f3, ⟨mk0, a3_Ledger, i3, kc0⟩, G3⟩, starS_mo (mo_Ledger___init__ z), PySem.W.mg_of X G aC0⟩
  have G25 : FnG true l.prog w K mg base 5 f25 _ ["_law_made", "_law_due"] (S__law_told_right z) := fng_of Fu25 sc__law_told_right (len__law_told_right z) (mo__law_told_right z) (fun cdv A outer s H E c => d__law_told_right T IN_Ledger R_Ledger___getitem__ LN_Ledger LN4_Ledger R_Ledger_greatest R_Ledger_rows RP_Ledger cdv A outer s H E c) (p__law_told_right z)
  have C__law_told_right : Cal true l.prog w K mg base "_law_told_right" 5 2 [] (fun ds _ => ds) (S__law_told_right z) := ⟨⟨f25, _, _, PySem.W.mg_of X G a25, k25, G25, (Bnd.plain fun us hl => match us, hl with | [_, _], _ => rfl)⟩⟩
  have G9 : FnG false l.prog w K mg base 6 f9 _ ["self", "other"] (S_Ledger___add__ z) := fng_of Fu9 sc_Ledger___add__ (len_Ledger___add__ z) (mo_Ledger___add__ z) (fun cdv A outer s H E c => d_Ledger___add__ T M_Ledger R_Ledger_rows cdv A outer s H E c) (p_Ledger___add__ z)
  have R_Ledger___add__ : Op2C l.prog w K mg base z.Ledger .Add 6 (S_Ledger___add__ z) := ⟨sf0, ⟨f9, a9_Ledger, i9, frd_plain G9 (Bnd.plain fun us hl => match us, hl with | [_, _], _ => rfl)⟩, (mo_Ledger___add__ z)⟩
  have G22 : FnG false l.prog w K mg base 6 f22 _ ["_law_rows_here"] (S__law_ledger z) := fng_of Fu22 sc__law_ledger (len__law_ledger z) (mo__law_ledger z) (fun cdv A outer s H E c => d__law_ledger T M_Ledger cdv A outer s H E c) (p__law_ledger z)
  have C__law_ledger : Cal false l.prog w K mg base "_law_ledger" 6 1 [] (fun ds _ => ds) (S__law_ledger z) := ⟨⟨f22, _, _, PySem.W.mg_of X G a22, k22, G22, (Bnd.plain fun us hl => match us, hl with | [_], _ => rfl)⟩⟩
  have G26 : FnG true l.prog w K mg base 7 f26 _ ["_law_made", "_law_rows_here"] (S__law_alike_right z) := fng_of Fu26 sc__law_alike_right (len__law_alike_right z) (mo__law_alike_right z) (fun cdv A outer s H E c => d__law_alike_right T C__law_ledger C__law_sums EQ_Ledger EA_Ledger M_Ledger R_Ledger___add__ RP_Ledger cdv A outer s H E c) (p__law_alike_right z)
  have C__law_alike_right : Cal true l.prog w K mg base "_law_alike_right" 7 2 [] (fun ds _ => ds) (S__law_alike_right z) := ⟨⟨f26, _, _, PySem.W.mg_of X G a26, k26, G26, (Bnd.plain fun us hl => match us, hl with | [_, _], _ => rfl)⟩⟩
  have G27 : FnG false l.prog w K mg base 8 f27 _ ["_law_pen_here"] (S__law_long_right z) := fng_ofC FC__law_long_right sc__law_long_right (len__law_long_right z) (mo__law_long_right z) (fun A outer s H E c => d__law_long_right T C__law_draw C__law_odd M_Ledger R_Ledger_rows H__law_heard TB__law_long_right A outer s H E c) (p__law_long_right z)
  have C__law_long_right : Cal false l.prog w K mg base "_law_long_right" 8 1 [] (fun ds _ => ds) (S__law_long_right z) := ⟨⟨f27, _, _, PySem.W.mg_of X G a27, k27, G27, (Bnd.plain fun us hl => match us, hl with | [_], _ => rfl)⟩⟩
  have G24 : FnG true l.prog w K mg base 9 f24 _ ["_law_pen_here", "_law_rows_here"] (S__law_refused_right z) := fng_ofC FC__law_refused_right sc__law_refused_right (len__law_refused_right z) (mo__law_refused_right z) (fun A outer s H E c => d__law_refused_right T C__law_draw C__law_ledger C__law_odd H__law_heard TB__law_refused_right A outer s H E c) (p__law_refused_right z)
  have C__law_refused_right : Cal true l.prog w K mg base "_law_refused_right" 9 2 [] (fun ds _ => ds) (S__law_refused_right z) := ⟨⟨f24, _, _, PySem.W.mg_of X G a24, k24, G24, (Bnd.plain fun us hl => match us, hl with | [_, _], _ => rfl)⟩⟩
  have G28 : FnG true l.prog w K mg base 10 fa _ ["_law_script"] (S_law z) := fng_of Fu28 sc_law (len_law z) (mo_law z) (fun cdv A outer s H E c => d_law T C__law_alike_right C__law_ledger C__law_long_right C__law_pen C__law_refused_right C__law_rows C__law_sums C__law_told_right EQ_Ledger LN_Ledger M_Ledger R_Ledger_greatest R_Ledger_rows cdv A outer s H E c) (p_law z)
  exact G28
theorem all_K {l : PySem.W.OpenLaw} {w : World} {K : PySem.W.Frag} {h : Heap} {mg : Str → Option Value} {fa : Addr} (X : K.In h) (G : h.Ns mainGlobals mg) (hfa : mg "law" = some (.ref fa)) (c : Hx.SaX cks fns K)
    : LawT true l w K 10 63 "_law_script" mg fa ["_law_refused_right", "_law_long_right"] :=
  all_mk X G hfa
    (of_decide_eq_true (c.t 0 0 rfl rfl : ck_0 K = true))
    (of_decide_eq_true (c.t 0 1 rfl rfl : ck_1 K = true))
    (of_decide_eq_true (c.t 0 2 rfl rfl : ck_2 K = true))
    (of_decide_eq_true (c.t 0 3 rfl rfl : ck_3 K = true))
    (of_decide_eq_true (c.t 0 4 rfl rfl : ck_4 K = true))
    (of_decide_eq_true (c.t 0 5 rfl rfl : ck_5 K = true))
    (of_decide_eq_true (c.t 0 6 rfl rfl : ck_6 K = true))
    (of_decide_eq_true (c.t 0 7 rfl rfl : ck_7 K = true))
    (of_decide_eq_true (c.t 0 8 rfl rfl : ck_8 K = true))
    (of_decide_eq_true (c.t 0 9 rfl rfl : ck_9 K = true))
    (of_decide_eq_true (c.t 0 10 rfl rfl : ck_10 K = true))
    (of_decide_eq_true (c.t 0 11 rfl rfl : ck_11 K = true))
    (of_decide_eq_true (c.t 0 12 rfl rfl : ck_12 K = true))
    (of_decide_eq_true (c.t 0 13 rfl rfl : ck_13 K = true))
    (of_decide_eq_true (c.t 0 14 rfl rfl : ck_14 K = true))
    (of_decide_eq_true (c.t 0 15 rfl rfl : ck_15 K = true))
    (of_decide_eq_true (c.t 0 16 rfl rfl : ck_16 K = true))
    (of_decide_eq_true (c.t 0 17 rfl rfl : ck_17 K = true))
    (of_decide_eq_true (c.t 0 18 rfl rfl : ck_18 K = true))
    (of_decide_eq_true (c.t 0 19 rfl rfl : ck_19 K = true))
    (of_decide_eq_true (c.t 0 20 rfl rfl : ck_20 K = true))
    (of_decide_eq_true (c.t 0 21 rfl rfl : ck_21 K = true))
    (of_decide_eq_true (c.t 0 22 rfl rfl : ck_22 K = true))
    (of_decide_eq_true (c.t 0 23 rfl rfl : ck_23 K = true))
    (of_decide_eq_true (c.t 0 24 rfl rfl : ck_24 K = true))
    (of_decide_eq_true (c.t 0 25 rfl rfl : ck_25 K = true))
    (of_decide_eq_true (c.t 0 26 rfl rfl : ck_26 K = true))
    (of_decide_eq_true (c.t 0 27 rfl rfl : ck_27 K = true))
    (of_decide_eq_true (c.t 0 28 rfl rfl : ck_28 K = true))
    (of_decide_eq_true (c.t 0 29 rfl rfl : ck_29 K = true))
    (of_decide_eq_true (c.t 0 30 rfl rfl : ck_30 K = true))
    (of_decide_eq_true (c.t 0 31 rfl rfl : ck_31 K = true))
    (of_decide_eq_true (c.t 0 32 rfl rfl : ck_32 K = true))
    (of_decide_eq_true (c.t 0 33 rfl rfl : ck_33 K = true))
    (of_decide_eq_true (c.t 0 34 rfl rfl : ck_34 K = true))
    (of_decide_eq_true (c.t 0 35 rfl rfl : ck_35 K = true))
    (of_decide_eq_true (c.t 0 36 rfl rfl : ck_36 K = true))
    (of_decide_eq_true (c.t 0 37 rfl rfl : ck_37 K = true))
    (of_decide_eq_true (c.t 0 38 rfl rfl : ck_38 K = true))
    (of_decide_eq_true (c.t 0 39 rfl rfl : ck_39 K = true))
    (of_decide_eq_true (c.t 1 0 rfl rfl : ck_40 K = true))
    (of_decide_eq_true (c.t 1 1 rfl rfl : ck_41 K = true))
    (of_decide_eq_true (c.t 1 2 rfl rfl : ck_42 K = true))
    (of_decide_eq_true (c.t 1 3 rfl rfl : ck_43 K = true))
    (of_decide_eq_true (c.t 1 4 rfl rfl : ck_44 K = true))
    (of_decide_eq_true (c.t 1 5 rfl rfl : ck_45 K = true))
    (Hx.xc_at (c.t 1 6 rfl rfl : ck_46 K = true))
    (of_decide_eq_true (c.t 1 7 rfl rfl : ck_47 K = true))
    (of_decide_eq_true (c.t 1 8 rfl rfl : ck_48 K = true))
    (of_decide_eq_true (c.t 1 9 rfl rfl : ck_49 K = true))
    (of_decide_eq_true (c.t 1 10 rfl rfl : ck_50 K = true))
    (of_decide_eq_true (c.t 1 11 rfl rfl : ck_51 K = true))
    (of_decide_eq_true (c.t 1 12 rfl rfl : ck_52 K = true))
    (of_decide_eq_true (c.t 1 13 rfl rfl : ck_53 K = true))
    (of_decide_eq_true (c.t 1 14 rfl rfl : ck_54 K = true))
    (of_decide_eq_true (c.t 1 15 rfl rfl : ck_55 K = true))
    (of_decide_eq_true (c.t 1 16 rfl rfl : ck_56 K = true))
    (of_decide_eq_true (c.t 1 17 rfl rfl : ck_57 K = true))
    (of_decide_eq_true (c.t 1 18 rfl rfl : ck_58 K = true))
    (of_decide_eq_true (c.t 1 19 rfl rfl : ck_59 K = true))
    (of_decide_eq_true (c.t 1 20 rfl rfl : ck_60 K = true))
    (of_decide_eq_true (c.t 1 21 rfl rfl : ck_61 K = true))
    (of_decide_eq_true (c.t 1 22 rfl rfl : ck_62 K = true))
    (of_decide_eq_true (c.t 1 23 rfl rfl : ck_63 K = true))
    (of_decide_eq_true (c.t 1 24 rfl rfl : ck_64 K = true))
    (of_decide_eq_true (c.t 1 25 rfl rfl : ck_65 K = true))
    (of_decide_eq_true (c.t 1 26 rfl rfl : ck_66 K = true))
    (of_decide_eq_true (c.t 1 27 rfl rfl : ck_67 K = true))
    (of_decide_eq_true (c.t 1 28 rfl rfl : ck_68 K = true))
    (of_decide_eq_true (c.t 1 29 rfl rfl : ck_69 K = true))
    (of_decide_eq_true (c.t 1 30 rfl rfl : ck_70 K = true))
    (of_decide_eq_true (c.t 1 31 rfl rfl : ck_71 K = true))
    (of_decide_eq_true (c.t 1 32 rfl rfl : ck_72 K = true))
    (of_decide_eq_true (c.t 1 33 rfl rfl : ck_73 K = true))
    (of_decide_eq_true (c.t 1 34 rfl rfl : ck_74 K = true))
    (of_decide_eq_true (c.t 1 35 rfl rfl : ck_75 K = true))
    (of_decide_eq_true (c.t 1 36 rfl rfl : ck_76 K = true))
    (of_decide_eq_true (c.t 1 37 rfl rfl : ck_77 K = true))
    (of_decide_eq_true (c.t 1 38 rfl rfl : ck_78 K = true))
    (of_decide_eq_true (c.t 1 39 rfl rfl : ck_79 K = true))
    (of_decide_eq_true (c.t 2 0 rfl rfl : ck_80 K = true))
    (of_decide_eq_true (c.t 2 1 rfl rfl : ck_81 K = true))
    (of_decide_eq_true (c.t 2 2 rfl rfl : ck_82 K = true))
    (of_decide_eq_true (c.t 2 3 rfl rfl : ck_83 K = true))
    (of_decide_eq_true (c.t 2 4 rfl rfl : ck_84 K = true))
    (of_decide_eq_true (c.t 2 5 rfl rfl : ck_85 K = true))
    (of_decide_eq_true (c.t 2 6 rfl rfl : ck_86 K = true))
    (of_decide_eq_true (c.t 2 7 rfl rfl : ck_87 K = true))
    (of_decide_eq_true (c.t 2 8 rfl rfl : ck_88 K = true))
    (of_decide_eq_true (c.t 2 9 rfl rfl : ck_89 K = true))
    (of_decide_eq_true (c.t 2 10 rfl rfl : ck_90 K = true))
    (of_decide_eq_true (c.t 2 11 rfl rfl : ck_91 K = true))
    (of_decide_eq_true (c.t 2 12 rfl rfl : ck_92 K = true))
    (of_decide_eq_true (c.t 2 13 rfl rfl : ck_93 K = true))
    (of_decide_eq_true (c.t 2 14 rfl rfl : ck_94 K = true))
    (of_decide_eq_true (c.t 2 15 rfl rfl : ck_95 K = true))
    (of_decide_eq_true (c.t 2 16 rfl rfl : ck_96 K = true))
    (of_decide_eq_true (c.t 2 17 rfl rfl : ck_97 K = true))
    (of_decide_eq_true (c.t 2 18 rfl rfl : ck_98 K = true))
    (of_decide_eq_true (c.t 2 19 rfl rfl : ck_99 K = true))
    (of_decide_eq_true (c.t 2 20 rfl rfl : ck_100 K = true))
    (of_decide_eq_true (c.t 2 21 rfl rfl : ck_101 K = true))
    (of_decide_eq_true (c.t 2 22 rfl rfl : ck_102 K = true))
    (of_decide_eq_true (c.t 2 23 rfl rfl : ck_103 K = true))
    (of_decide_eq_true (c.t 2 24 rfl rfl : ck_104 K = true))
    (of_decide_eq_true (c.t 2 25 rfl rfl : ck_105 K = true))
    (of_decide_eq_true (c.t 2 26 rfl rfl : ck_106 K = true))
    (of_decide_eq_true (c.t 2 27 rfl rfl : ck_107 K = true))
    (of_decide_eq_true (c.t 2 28 rfl rfl : ck_108 K = true))
    (of_decide_eq_true (c.t 2 29 rfl rfl : ck_109 K = true))
    (of_decide_eq_true (c.t 2 30 rfl rfl : ck_110 K = true))
    (of_decide_eq_true (c.t 2 31 rfl rfl : ck_111 K = true))
    (of_decide_eq_true (c.t 2 32 rfl rfl : ck_112 K = true))
    (of_decide_eq_true (c.t 2 33 rfl rfl : ck_113 K = true))
    (of_decide_eq_true (c.t 2 34 rfl rfl : ck_114 K = true))
    (of_decide_eq_true (c.t 2 35 rfl rfl : ck_115 K = true))
    (of_decide_eq_true (c.t 2 36 rfl rfl : ck_116 K = true))
    (of_decide_eq_true (c.t 2 37 rfl rfl : ck_117 K = true))
    (c.f 0 (d := fn_0) rfl)
    (of_decide_eq_true (c.t 2 38 rfl rfl : ck_118 K = true))
    (of_decide_eq_true (c.t 2 39 rfl rfl : ck_119 K = true))
    (of_decide_eq_true (c.t 3 0 rfl rfl : ck_120 K = true))
    (c.f 1 (d := fn_1) rfl)
    (of_decide_eq_true (c.t 3 1 rfl rfl : ck_121 K = true))
    (of_decide_eq_true (c.t 3 2 rfl rfl : ck_122 K = true))
    (of_decide_eq_true (c.t 3 3 rfl rfl : ck_123 K = true))
    (c.f 2 (d := fn_2) rfl)
    (of_decide_eq_true (c.t 3 4 rfl rfl : ck_124 K = true))
    (of_decide_eq_true (c.t 3 5 rfl rfl : ck_125 K = true))
    (of_decide_eq_true (c.t 3 6 rfl rfl : ck_126 K = true))
    (of_decide_eq_true (c.t 3 7 rfl rfl : ck_127 K = true))
    (of_decide_eq_true (c.t 3 8 rfl rfl : ck_128 K = true))
    (c.f 3 (d := fn_3) rfl)
    (of_decide_eq_true (c.t 3 9 rfl rfl : ck_129 K = true))
    (of_decide_eq_true (c.t 3 10 rfl rfl : ck_130 K = true))
    (of_decide_eq_true (c.t 3 11 rfl rfl : ck_131 K = true))
    (of_decide_eq_true (c.t 3 12 rfl rfl : ck_132 K = true))
    (of_decide_eq_true (c.t 3 13 rfl rfl : ck_133 K = true))
    (of_decide_eq_true (c.t 3 14 rfl rfl : ck_134 K = true))
    (c.f 4 (d := fn_4) rfl)
    (of_decide_eq_true (c.t 3 15 rfl rfl : ck_135 K = true))
    (of_decide_eq_true (c.t 3 16 rfl rfl : ck_136 K = true))
    (of_decide_eq_true (c.t 3 17 rfl rfl : ck_137 K = true))
    (of_decide_eq_true (c.t 3 18 rfl rfl : ck_138 K = true))
    (of_decide_eq_true (c.t 3 19 rfl rfl : ck_139 K = true))
    (of_decide_eq_true (c.t 3 20 rfl rfl : ck_140 K = true))
    (c.f 5 (d := fn_5) rfl)
    (of_decide_eq_true (c.t 3 21 rfl rfl : ck_141 K = true))
    (of_decide_eq_true (c.t 3 22 rfl rfl : ck_142 K = true))
    (of_decide_eq_true (c.t 3 23 rfl rfl : ck_143 K = true))
    (of_decide_eq_true (c.t 3 24 rfl rfl : ck_144 K = true))
    (of_decide_eq_true (c.t 3 25 rfl rfl : ck_145 K = true))
    (c.f 6 (d := fn_6) rfl)
    (of_decide_eq_true (c.t 3 26 rfl rfl : ck_146 K = true))
    (of_decide_eq_true (c.t 3 27 rfl rfl : ck_147 K = true))
    (of_decide_eq_true (c.t 3 28 rfl rfl : ck_148 K = true))
    (of_decide_eq_true (c.t 3 29 rfl rfl : ck_149 K = true))
    (of_decide_eq_true (c.t 3 30 rfl rfl : ck_150 K = true))
    (c.f 7 (d := fn_7) rfl)
    (of_decide_eq_true (c.t 3 31 rfl rfl : ck_151 K = true))
    (of_decide_eq_true (c.t 3 32 rfl rfl : ck_152 K = true))
    (of_decide_eq_true (c.t 3 33 rfl rfl : ck_153 K = true))
    (of_decide_eq_true (c.t 3 34 rfl rfl : ck_154 K = true))
    (of_decide_eq_true (c.t 3 35 rfl rfl : ck_155 K = true))
    (c.f 8 (d := fn_8) rfl)
    (of_decide_eq_true (c.t 3 36 rfl rfl : ck_156 K = true))
    (of_decide_eq_true (c.t 3 37 rfl rfl : ck_157 K = true))
    (of_decide_eq_true (c.t 3 38 rfl rfl : ck_158 K = true))
    (of_decide_eq_true (c.t 3 39 rfl rfl : ck_159 K = true))
    (of_decide_eq_true (c.t 4 0 rfl rfl : ck_160 K = true))
    (c.f 9 (d := fn_9) rfl)
    (of_decide_eq_true (c.t 4 1 rfl rfl : ck_161 K = true))
    (of_decide_eq_true (c.t 4 2 rfl rfl : ck_162 K = true))
    (of_decide_eq_true (c.t 4 3 rfl rfl : ck_163 K = true))
    (of_decide_eq_true (c.t 4 4 rfl rfl : ck_164 K = true))
    (of_decide_eq_true (c.t 4 5 rfl rfl : ck_165 K = true))
    (c.f 10 (d := fn_10) rfl)
    (of_decide_eq_true (c.t 4 6 rfl rfl : ck_166 K = true))
    (of_decide_eq_true (c.t 4 7 rfl rfl : ck_167 K = true))
    (of_decide_eq_true (c.t 4 8 rfl rfl : ck_168 K = true))
    (of_decide_eq_true (c.t 4 9 rfl rfl : ck_169 K = true))
    (of_decide_eq_true (c.t 4 10 rfl rfl : ck_170 K = true))
    (c.f 11 (d := fn_11) rfl)
    (of_decide_eq_true (c.t 4 11 rfl rfl : ck_171 K = true))
    (of_decide_eq_true (c.t 4 12 rfl rfl : ck_172 K = true))
    (of_decide_eq_true (c.t 4 13 rfl rfl : ck_173 K = true))
    (c.f 12 (d := fn_12) rfl)
    (of_decide_eq_true (c.t 4 14 rfl rfl : ck_174 K = true))
    (of_decide_eq_true (c.t 4 15 rfl rfl : ck_175 K = true))
    (of_decide_eq_true (c.t 4 16 rfl rfl : ck_176 K = true))
    (c.f 13 (d := fn_13) rfl)
    (of_decide_eq_true (c.t 4 17 rfl rfl : ck_177 K = true))
    (of_decide_eq_true (c.t 4 18 rfl rfl : ck_178 K = true))
    (of_decide_eq_true (c.t 4 19 rfl rfl : ck_179 K = true))
    (c.f 14 (d := fn_14) rfl)
    (of_decide_eq_true (c.t 4 20 rfl rfl : ck_180 K = true))
    (of_decide_eq_true (c.t 4 21 rfl rfl : ck_181 K = true))
    (of_decide_eq_true (c.t 4 22 rfl rfl : ck_182 K = true))
    (c.f 15 (d := fn_15) rfl)
    (of_decide_eq_true (c.t 4 23 rfl rfl : ck_183 K = true))
    (of_decide_eq_true (c.t 4 24 rfl rfl : ck_184 K = true))
    (of_decide_eq_true (c.t 4 25 rfl rfl : ck_185 K = true))
    (c.f 16 (d := fn_16) rfl)
    (of_decide_eq_true (c.t 4 26 rfl rfl : ck_186 K = true))
    (of_decide_eq_true (c.t 4 27 rfl rfl : ck_187 K = true))
    (of_decide_eq_true (c.t 4 28 rfl rfl : ck_188 K = true))
    (c.f 17 (d := fn_17) rfl)
    (of_decide_eq_true (c.t 4 29 rfl rfl : ck_189 K = true))
    (of_decide_eq_true (c.t 4 30 rfl rfl : ck_190 K = true))
    (of_decide_eq_true (c.t 4 31 rfl rfl : ck_191 K = true))
    (c.f 18 (d := fn_18) rfl)
    (of_decide_eq_true (c.t 4 32 rfl rfl : ck_192 K = true))
    (of_decide_eq_true (c.t 4 33 rfl rfl : ck_193 K = true))
    (of_decide_eq_true (c.t 4 34 rfl rfl : ck_194 K = true))
    (c.f 19 (d := fn_19) rfl)
    (of_decide_eq_true (c.t 4 35 rfl rfl : ck_195 K = true))
    (of_decide_eq_true (c.t 4 36 rfl rfl : ck_196 K = true))
    (of_decide_eq_true (c.t 4 37 rfl rfl : ck_197 K = true))
    (c.f 20 (d := fn_20) rfl)
    (of_decide_eq_true (c.t 4 38 rfl rfl : ck_198 K = true))
    (of_decide_eq_true (c.t 4 39 rfl rfl : ck_199 K = true))
    (of_decide_eq_true (c.t 5 0 rfl rfl : ck_200 K = true))
    (c.f 21 (d := fn_21) rfl)
    (of_decide_eq_true (c.t 5 1 rfl rfl : ck_201 K = true))
    (of_decide_eq_true (c.t 5 2 rfl rfl : ck_202 K = true))
    (of_decide_eq_true (c.t 5 3 rfl rfl : ck_203 K = true))
    (c.f 22 (d := fn_22) rfl)
    (of_decide_eq_true (c.t 5 4 rfl rfl : ck_204 K = true))
    (of_decide_eq_true (c.t 5 5 rfl rfl : ck_205 K = true))
    (of_decide_eq_true (c.t 5 6 rfl rfl : ck_206 K = true))
    (c.f 23 (d := fn_23) rfl)
    (of_decide_eq_true (c.t 5 7 rfl rfl : ck_207 K = true))
    (of_decide_eq_true (c.t 5 8 rfl rfl : ck_208 K = true))
    (of_decide_eq_true (c.t 5 9 rfl rfl : ck_209 K = true))
    (Hx.fn_c (c.f 24 (d := fn_24) rfl) (of_decide_eq_true (c.t 5 10 rfl rfl : ck_210 K = true)))
    (of_decide_eq_true (c.t 5 11 rfl rfl : ck_211 K = true))
    (of_decide_eq_true (c.t 5 12 rfl rfl : ck_212 K = true))
    (Hx.fl_at (c.t 5 13 rfl rfl : ck_213 K = true))
    (of_decide_eq_true (c.t 5 14 rfl rfl : ck_214 K = true))
    (Hx.no_at (c.t 5 15 rfl rfl : ck_215 K = true))
    (of_decide_eq_true (c.t 5 16 rfl rfl : ck_216 K = true))
    (c.f 25 (d := fn_25) rfl)
    (of_decide_eq_true (c.t 5 17 rfl rfl : ck_217 K = true))
    (of_decide_eq_true (c.t 5 18 rfl rfl : ck_218 K = true))
    (of_decide_eq_true (c.t 5 19 rfl rfl : ck_219 K = true))
    (c.f 26 (d := fn_26) rfl)
    (of_decide_eq_true (c.t 5 20 rfl rfl : ck_220 K = true))
    (of_decide_eq_true (c.t 5 21 rfl rfl : ck_221 K = true))
    (of_decide_eq_true (c.t 5 22 rfl rfl : ck_222 K = true))
    (Hx.fn_c (c.f 27 (d := fn_27) rfl) (of_decide_eq_true (c.t 5 23 rfl rfl : ck_223 K = true)))
    (of_decide_eq_true (c.t 5 24 rfl rfl : ck_224 K = true))
    (of_decide_eq_true (c.t 5 25 rfl rfl : ck_225 K = true))
    (Hx.fl_at (c.t 5 26 rfl rfl : ck_226 K = true))
    (of_decide_eq_true (c.t 5 27 rfl rfl : ck_227 K = true))
    (Hx.no_at (c.t 5 28 rfl rfl : ck_228 K = true))
    (of_decide_eq_true (c.t 5 29 rfl rfl : ck_229 K = true))
    (c.f 28 (d := fn_28) rfl)
    (of_decide_eq_true (c.t 5 30 rfl rfl : ck_230 K = true))
    (of_decide_eq_true (c.t 5 31 rfl rfl : ck_231 K = true))
    (c.f 29 (d := fn_29) rfl)
    (of_decide_eq_true (c.t 5 32 rfl rfl : ck_232 K = true))
    (of_decide_eq_true (c.t 5 33 rfl rfl : ck_233 K = true))
    (of_decide_eq_true (c.t 5 34 rfl rfl : ck_234 K = true))
    (of_decide_eq_true (c.t 5 35 rfl rfl : ck_235 K = true))
    (of_decide_eq_true (c.t 5 36 rfl rfl : ck_236 K = true))
    (of_decide_eq_true (c.t 5 37 rfl rfl : ck_237 K = true))
    (of_decide_eq_true (c.t 5 38 rfl rfl : ck_238 K = true))
    (of_decide_eq_true (c.t 5 39 rfl rfl : ck_239 K = true))
    (of_decide_eq_true (c.t 6 0 rfl rfl : ck_240 K = true))
    (of_decide_eq_true (c.t 6 1 rfl rfl : ck_241 K = true))
    (of_decide_eq_true (c.t 6 2 rfl rfl : ck_242 K = true))
    (of_decide_eq_true (c.t 6 3 rfl rfl : ck_243 K = true))
    (of_decide_eq_true (c.t 6 4 rfl rfl : ck_244 K = true))
    (of_decide_eq_true (c.t 6 5 rfl rfl : ck_245 K = true))
    (of_decide_eq_true (c.t 6 6 rfl rfl : ck_246 K = true))
    (of_decide_eq_true (c.t 6 7 rfl rfl : ck_247 K = true))
    (of_decide_eq_true (c.t 6 8 rfl rfl : ck_248 K = true))
    (of_decide_eq_true (c.t 6 9 rfl rfl : ck_249 K = true))
    (of_decide_eq_true (c.t 6 10 rfl rfl : ck_250 K = true))
    (of_decide_eq_true (c.t 6 11 rfl rfl : ck_251 K = true))
    (of_decide_eq_true (c.t 6 12 rfl rfl : ck_252 K = true))
end K25
open PySem PySem.W PyProof.Rows
set_option maxRecDepth 100000 in
set_option maxHeartbeats 0 in
theorem PySem.Challenge.cw_forkecho_k25_ledgers_made_holds : PySem.Challenge.rw_forkecho_k25_ledgers_made.Holds := by
  w_on; o_law
  refine HandSHeadRun.head_any (r := OpenLaw.row PySem.Challenge.rw_forkecho_k25_ledgers_made) (q := view (OpenLaw.row PySem.Challenge.rw_forkecho_k25_ledgers_made).prog [51, 54, 55]) (H := K25.hk) (ob := K25.ob) (M := 100000) (loose := K25.names) (d := HandSHeadRun.topDef (OpenLaw.row PySem.Challenge.rw_forkecho_k25_ledgers_made).prog 55) (kwd := []) K25.ob_eq (by kernel_rfl) (fun s => by kernel_rfl) K25.run (by kernel_rfl) (by kernel_rfl) (by kernel_rfl) (by rfl) (by first | assumption | decide +kernel) (by decide +kernel) ⟨rfl, rfl, rfl, rfl, rfl, by decide +kernel⟩ ?hw ?hc
  case hw => w_witness2
  case hc =>
    refine Hx.walkXT (gz := true) (l := PySem.Challenge.rw_forkecho_k25_ledgers_made) (n := 63) (k := 10) (x := "_law_script") (names := ["_law_refused_right", "_law_long_right"]) rfl (by decide) (by kernel_rfl) ⟨rfl, by decide, by decide⟩ (by decide +kernel) ?F
    intro w mg fa h Y G hmg0
    obtain ⟨K, KX, c⟩ := Y
    have hmg : mg ("law" : PySem.Str) = some (.ref fa) := by
      have e : (HandSHeadRun.topDef (OpenLaw.row PySem.Challenge.rw_forkecho_k25_ledgers_made).prog 55).name = ("law" : PySem.Str) := by kernel_rfl
      rw [← e]; exact hmg0
    exact ⟨K, KX, K25.all_K KX G hmg c⟩
#print axioms PySem.Challenge.cw_forkecho_k25_ledgers_made_holds
