import PyProof.Rows.All
import Wide.All
import OpenK.AllK
import Wide.FinOn
import PyProof.EqAt
import PyProof.EqKinds
import PyProof.TupleCall
import HandS.ForMost
import HandS.ForExc
import HandS.TupAny
import HandS.TupMul
import HandS.Wide
import HandS.IsInst
import HandS.SortInts
import HandS.DictComp
import HandS.Zip
import HandS.Style
import HandS.SortRule
import HandS.Conv
import HandS.Codes
import HandS.DictTup
import KE.GoesEnum
import KE.GoesMore
import HandS.Iter
import HandS.Ends
import HandS.More
import HandS.Defaults
import HandS.Star
import HandS.Property
import HandS.SlotsOwn
import KE.KOpsOwn
import HandS.Flow
import HandS.ListItems
import KE.KItemsList
import KE.KEqNest
import KE.KUnpackStar
import HandS.SortKw
import KE.DataMinMax
import PyProof.RulesMatch
import HandS.ClsMeth
import PySem.Challenge.RW_forkecho_k06_bodies_unrolled
set_option Elab.async false
set_option linter.all false
set_option maxRecDepth 100000
set_option maxHeartbeats 4000000
namespace DL
open PySem PySem.Spec L2

/-! ### data: values as trees; what may be changed is a ref -/
inductive D where
  | non | bl (b : Bool) | int (i : Int) | str (s : Str) | ref (a : Addr) | ty (n : String)
  | tup (xs : List D) | tpl (xs : List D) | lst (xs : List D) | lk (xs : List D) | ob (C : Addr) (fs : List (Str × D)) | dK (kvs : List (Key × D)) | dT (kvs : List (List Key × D))
/-- an object that may change -/
inductive AO where
  | lst (xs : List D) | dK (kvs : List (Key × D)) | dT (kvs : List (List Key × D)) | ins (C : Addr) (fs : List (Str × D)) | lck (xs : List D)
abbrev AH := Addr → Option AO
def up (h : AH) (a : Addr) (o : AO) : AH := fun b => if b = a then some o else h b
@[simp] theorem up_same {h : AH} {a : Addr} {o : AO} : up h a o a = some o := by simp [up]
theorem up_ne {h : AH} {a b : Addr} {o : AO} (e : b ≠ a) : up h a o b = h b := by simp [up, e]
@[simp] theorem up_up {h : AH} {a : Addr} {o u : AO} : up (up h a o) a u = up h a u := by
  funext b; unfold up; split <;> rfl
/-- Sub g h: g is a part of h -/
def Sub (g h : AH) : Prop := ∀ a o, g a = some o → h a = some o
theorem Sub.refl (h : AH) : Sub h h := fun _ _ e => e
theorem Sub.trans {f g h : AH} (a : Sub f g) (b : Sub g h) : Sub f h := fun c o e => b c o (a c o e)
theorem sub_up {h : AH} {p : Addr} {o : AO} (e : h p = none) : Sub h (up h p o) := fun a u q => by
  rw [up_ne]; exact q
  rintro rfl; rw [e] at q; cases q

mutual
inductive Rep (K : PySem.W.Frag) (F : Hp) : D → V → Prop where
  | non : Rep K F .non .non
  | bl (b : Bool) : Rep K F (.bl b) (.bl b)
  | int (i : Int) : Rep K F (.int i) (.int i)
  | str (s : Str) : Rep K F (.str s) (.str s)
  | ref (a : Addr) : Rep K F (.ref a) (.ref a)
  | ty (n : String) : Rep K F (.ty n) (.ty n)
  | tup {a : Addr} {xs : List D} {vs : List V} (h : SqT K F a vs) (r : Reps K F xs vs) : Rep K F (.tup xs) (.ref a)
  | tpl {a : Addr} {ob : Obj} {xs : List D} {vs : List V} (h : F a = some (.frz ob (.tup vs))) (hd : ob.dict = none) (r : Reps K F xs vs) : Rep K F (.tpl xs) (.ref a)
  | lst {a : Addr} {xs : List D} {vs : List V} (h : F a = some (.lst vs)) (r : Reps K F xs vs) : Rep K F (.lst xs) (.ref a)
  | lk {a : Addr} {xs : List D} {vs : List V} (h : SqL K F a vs) (r : Reps K F xs vs) : Rep K F (.lk xs) (.ref a)
  | dK {a : Addr} {xs : List (Key × D)} {vs : List (Key × V)} (h : F a = some (.dK vs)) (r : RepK K F xs vs) : Rep K F (.dK xs) (.ref a)
  | dT {a : Addr} {xs : List (List Key × D)} {vs : List (List Key × V)} (h : F a = some (.dT vs)) (r : RepT K F xs vs) : Rep K F (.dT xs) (.ref a)
  | ob {a C : Addr} {dx : Addr} {xs : List (Str × D)} {vs : List (Str × V)} (h : F a = some (.ins C dx vs)) (r : RepF K F xs vs) : Rep K F (.ob C xs) (.ref a)
inductive Reps (K : PySem.W.Frag) (F : Hp) : List D → List V → Prop where
  | nil : Reps K F [] []
  | cons {x : D} {v : V} {xs : List D} {vs : List V} (h : Rep K F x v) (t : Reps K F xs vs) : Reps K F (x :: xs) (v :: vs)
inductive RepK (K : PySem.W.Frag) (F : Hp) : List (Key × D) → List (Key × V) → Prop where
  | nil : RepK K F [] []
  | cons {k : Key} {x : D} {v : V} {xs : List (Key × D)} {vs : List (Key × V)} (h : Rep K F x v) (t : RepK K F xs vs) : RepK K F ((k, x) :: xs) ((k, v) :: vs)
inductive RepT (K : PySem.W.Frag) (F : Hp) : List (List Key × D) → List (List Key × V) → Prop where
  | nil : RepT K F [] []
  | cons {k : List Key} {x : D} {v : V} {xs : List (List Key × D)} {vs : List (List Key × V)} (h : Rep K F x v) (t : RepT K F xs vs) : RepT K F ((k, x) :: xs) ((k, v) :: vs)
inductive RepF (K : PySem.W.Frag) (F : Hp) : List (Str × D) → List (Str × V) → Prop where
  | nil : RepF K F [] []
  | cons {k : Str} {x : D} {v : V} {xs : List (Str × D)} {vs : List (Str × V)} (h : Rep K F x v) (t : RepF K F xs vs) : RepF K F ((k, x) :: xs) ((k, v) :: vs)
end

def Ext (F F' : Hp) : Prop := ∀ a o, F a = some o → F' a = some o
theorem Ext.refl (F : Hp) : Ext F F := fun _ _ e => e
theorem Ext.trans {F G H : Hp} (a : Ext F G) (b : Ext G H) : Ext F H := fun c o e => b c o (a c o e)
theorem ext_upd {F : Hp} {p : Addr} {o : HO} (e : F p = none) : Ext F (upd F p o) := fun a u q => by
  rw [upd_ne]; exact q
  rintro rfl; rw [e] at q; cases q
theorem Ext.sqt {K : PySem.W.Frag} {F F' : Hp} {a : Addr} {vs : List V} (e : Ext F F') (h : SqT K F a vs) : SqT K F' a vs := by
  rcases h with (h | ⟨o, h⟩) | h
  · exact .inl (.inl (e _ _ h))
  · exact .inl (.inr ⟨o, e _ _ h⟩)
  · exact .inr h
theorem Ext.sql {K : PySem.W.Frag} {F F' : Hp} {a : Addr} {vs : List V} (e : Ext F F') (h : SqL K F a vs) : SqL K F' a vs := by
  rcases h with (h | ⟨o, h⟩) | h
  · exact .inl (.inl (e _ _ h))
  · exact .inl (.inr ⟨o, e _ _ h⟩)
  · exact .inr h
section
variable {K : PySem.W.Frag} {F F' : Hp}
mutual
theorem Rep.ext (e : Ext F F') : ∀ {x : D} {v : V}, Rep K F x v → Rep K F' x v
  | _, _, .non => .non
  | _, _, .bl b => .bl b
  | _, _, .int i => .int i
  | _, _, .str s => .str s
  | _, _, .ref a => .ref a
  | _, _, .ty n => .ty n
  | _, _, .tup h r => .tup (e.sqt h) (Reps.ext e r)
  | _, _, .tpl h hd r => .tpl (e _ _ h) hd (Reps.ext e r)
  | _, _, .lst h r => .lst (e _ _ h) (Reps.ext e r)
  | _, _, .lk h r => .lk (e.sql h) (Reps.ext e r)
  | _, _, .dK h r => .dK (e _ _ h) (RepK.ext e r)
  | _, _, .dT h r => .dT (e _ _ h) (RepT.ext e r)
  | _, _, .ob h r => .ob (e _ _ h) (RepF.ext e r)
theorem Reps.ext (e : Ext F F') : ∀ {xs : List D} {vs : List V}, Reps K F xs vs → Reps K F' xs vs
  | _, _, .nil => .nil
  | _, _, .cons h t => .cons (Rep.ext e h) (Reps.ext e t)
theorem RepK.ext (e : Ext F F') : ∀ {xs : List (Key × D)} {vs : List (Key × V)}, RepK K F xs vs → RepK K F' xs vs
  | _, _, .nil => .nil
  | _, _, .cons h t => .cons (Rep.ext e h) (RepK.ext e t)
theorem RepT.ext (e : Ext F F') : ∀ {xs : List (List Key × D)} {vs : List (List Key × V)}, RepT K F xs vs → RepT K F' xs vs
  | _, _, .nil => .nil
  | _, _, .cons h t => .cons (Rep.ext e h) (RepT.ext e t)
theorem RepF.ext (e : Ext F F') : ∀ {xs : List (Str × D)} {vs : List (Str × V)}, RepF K F xs vs → RepF K F' xs vs
  | _, _, .nil => .nil
  | _, _, .cons h t => .cons (Rep.ext e h) (RepF.ext e t)
end
theorem Reps.length : ∀ {xs : List D} {vs : List V}, Reps K F xs vs → xs.length = vs.length
  | _, _, .nil => rfl
  | _, _, .cons _ t => by simp [Reps.length t]
theorem Reps.append : ∀ {xs ys : List D} {vs ws : List V}, Reps K F xs vs → Reps K F ys ws → Reps K F (xs ++ ys) (vs ++ ws)
  | _, _, _, _, .nil, s => s
  | _, _, _, _, .cons h t, s => .cons h (Reps.append t s)
theorem Reps.get : ∀ {xs : List D} {vs : List V} {i : Nat} {x : D}, Reps K F xs vs → xs[i]? = some x → ∃ v, vs[i]? = some v ∧ Rep K F x v
  | _, _, _, _, .nil, e => by simp at e
  | _, _, 0, _, .cons h _, e => by simp at e; subst e; exact ⟨_, rfl, h⟩
  | _, _, i + 1, x, .cons _ t, e => by
    obtain ⟨v, h1, h2⟩ := Reps.get (i := i) (x := x) t (by simpa using e)
    exact ⟨v, by simpa using h1, h2⟩
theorem Reps.got : ∀ {xs : List D} {vs : List V} {i : Nat} {v : V}, Reps K F xs vs → vs[i]? = some v → ∃ x, xs[i]? = some x ∧ Rep K F x v
  | _, _, _, _, .nil, e => by simp at e
  | _, _, 0, _, .cons h _, e => by simp at e; subst e; exact ⟨_, rfl, h⟩
  | _, _, i + 1, v, .cons _ t, e => by
    obtain ⟨x, h1, h2⟩ := Reps.got (i := i) (v := v) t (by simpa using e)
    exact ⟨x, by simpa using h1, h2⟩
theorem Reps.set {x : D} {v : V} (r : Rep K F x v) : ∀ {xs : List D} {vs : List V} (i : Nat), Reps K F xs vs → Reps K F (xs.set i x) (vs.set i v)
  | _, _, _, .nil => .nil
  | _, _, 0, .cons _ t => .cons r t
  | _, _, i + 1, .cons q t => .cons q (Reps.set r i t)
theorem Reps.take : ∀ {xs : List D} {vs : List V} (n : Nat), Reps K F xs vs → Reps K F (xs.take n) (vs.take n)
  | _, _, 0, _ => .nil
  | _, _, _ + 1, .nil => .nil
  | _, _, n + 1, .cons r t => .cons r (Reps.take n t)
theorem Reps.drop : ∀ {xs : List D} {vs : List V} (n : Nat), Reps K F xs vs → Reps K F (xs.drop n) (vs.drop n)
  | _, _, 0, r => r
  | _, _, _ + 1, .nil => .nil
  | _, _, n + 1, .cons _ t => Reps.drop n t
end

def RepO (K : PySem.W.Frag) (F : Hp) : AO → HO → Prop
  | .lst xs, u => ∃ vs, u = .lst vs ∧ Reps K F xs vs
  | .dK kvs, u => ∃ vs, u = .dK vs ∧ RepK K F kvs vs
  | .dT kvs, u => ∃ vs, u = .dT vs ∧ RepT K F kvs vs
  | .ins C fs, u => ∃ dx vs, u = .ins C dx vs ∧ RepF K F fs vs
  | .lck xs, u => ∃ o vs, u = .frz o (.lst vs) ∧ Reps K F xs vs
theorem RepO.ext {K : PySem.W.Frag} {F F' : Hp} (e : Ext F F') : ∀ {o : AO} {u : HO}, RepO K F o u → RepO K F' o u
  | .lst _, _, ⟨vs, a, r⟩ => ⟨vs, a, r.ext e⟩
  | .dK _, _, ⟨vs, a, r⟩ => ⟨vs, a, r.ext e⟩
  | .dT _, _, ⟨vs, a, r⟩ => ⟨vs, a, r.ext e⟩
  | .ins _ _, _, ⟨dx, vs, a, r⟩ => ⟨dx, vs, a, r.ext e⟩
  | .lck _, _, ⟨o, vs, a, r⟩ => ⟨o, vs, a, r.ext e⟩
structure Sim (K : PySem.W.Frag) (F : Hp) (h : AH) (H : Hp) : Prop where
  fz : ∀ a o, F a = some o → H a = some o
  ob : ∀ a o, h a = some o → F a = none ∧ ∃ u, H a = some u ∧ RepO K F o u
section
variable {K : PySem.W.Frag} {F : Hp} {h g : AH} {H : Hp} {p : Addr}
theorem Sim.sub (S : Sim K F h H) (s : Sub g h) : Sim K F g H := ⟨S.fz, fun a o e => S.ob a o (s a o e)⟩
theorem Sim.free (S : Sim K F h H) (e : H p = none) : F p = none ∧ h p = none := by
  refine ⟨?_, ?_⟩
  · cases q : F p with
    | none => rfl
    | some o => rw [S.fz _ _ q] at e; cases e
  · cases q : h p with
    | none => rfl
    | some o => obtain ⟨_, u, e', _⟩ := S.ob _ _ q; rw [e'] at e; cases e
/-- a new object, never to change -/
theorem Sim.newF (S : Sim K F h H) (e : H p = none) (u : HO) : Sim K (upd F p u) h (upd H p u) := by
  obtain ⟨e1, e2⟩ := S.free e
  refine ⟨fun a o q => ?_, fun a o q => ?_⟩
  · by_cases c : a = p
    · subst c; rw [upd_same] at q ⊢; exact q
    · rw [upd_ne c] at q ⊢; exact S.fz _ _ q
  · have c : a ≠ p := by rintro rfl; rw [e2] at q; cases q
    obtain ⟨f, w, hw, r⟩ := S.ob _ _ q
    rw [upd_ne c, upd_ne c]
    exact ⟨f, w, hw, r.ext (ext_upd e1)⟩
/-- a new object that may change -/
theorem Sim.newM (S : Sim K F h H) (e : H p = none) {o : AO} {u : HO} (r : RepO K F o u) : Sim K F (up h p o) (upd H p u) := by
  obtain ⟨e1, e2⟩ := S.free e
  refine ⟨fun a v q => ?_, fun a v q => ?_⟩
  · have c : a ≠ p := by rintro rfl; rw [e1] at q; cases q
    rw [upd_ne c]; exact S.fz _ _ q
  · by_cases c : a = p
    · subst c; rw [up_same] at q; cases q; exact ⟨e1, u, upd_same, r⟩
    · rw [up_ne c] at q; rw [upd_ne c]; exact S.ob _ _ q
/-- an object changes -/
theorem Sim.put (S : Sim K F h H) {o0 : AO} (e : h p = some o0) {o : AO} {u : HO} (r : RepO K F o u) : Sim K F (up h p o) (upd H p u) := by
  obtain ⟨e1, _⟩ := S.ob _ _ e
  refine ⟨fun a v q => ?_, fun a v q => ?_⟩
  · have c : a ≠ p := by rintro rfl; rw [e1] at q; cases q
    rw [upd_ne c]; exact S.fz _ _ q
  · by_cases c : a = p
    · subst c; rw [up_same] at q; cases q; exact ⟨e1, u, upd_same, r⟩
    · rw [up_ne c] at q; rw [upd_ne c]; exact S.ob _ _ q
end

abbrev EnvD := List (Option D)
def EnvR (K : PySem.W.Frag) (F : Hp) (ρ : EnvD) (σ : St) : Prop := σ.length = ρ.length ∧ ∀ (i : Nat) d, ρ[i]? = some (some d) → ∃ v, σ[i]? = some (some v) ∧ Rep K F d v
theorem EnvR.ext {K : PySem.W.Frag} {F F' : Hp} (e : Ext F F') {ρ : EnvD} {σ : St} (r : EnvR K F ρ σ) : EnvR K F' ρ σ :=
  ⟨r.1, fun i d h => let ⟨v, a, b⟩ := r.2 i d h; ⟨v, a, b.ext e⟩⟩
theorem EnvR.set {K : PySem.W.Frag} {F : Hp} {ρ : EnvD} {σ : St} (r : EnvR K F ρ σ) {d : D} {v : V} (q : Rep K F d v) (i : Nat) : EnvR K F (ρ.set i (some d)) (σ.set i (some v)) := by
  refine ⟨by simp [r.1], fun j x e => ?_⟩
  by_cases c : i = j
  · subst c
    by_cases l : i < ρ.length
    · rw [List.getElem?_set_self l] at e; cases e
      exact ⟨v, List.getElem?_set_self (by rw [r.1]; exact l), q⟩
    · rw [List.getElem?_eq_none (by simpa using l)] at e; cases e
  · rw [List.getElem?_set_ne c] at e ⊢
    exact r.2 j x e

/-! ### exceptions -/
inductive DX where
  | own (C : Addr) (fs : List (Str × D)) | blt (n : String)
def RepX (K : PySem.W.Frag) (F H : Hp) : DX → Value → Option Addr → Prop
  | .own C fs, cls, d => cls = .ref C ∧ ((fs = [] ∧ d = none) ∨ ∃ dd vs, d = some dd ∧ H dd = some (.xd vs) ∧ RepF K F fs vs)
  | .blt n, cls, _ => cls = .type n

abbrev KD := D → AH → Prop
abbrev KX := DX → AH → Prop
abbrev WE := EnvD → AH → KD → KX → Prop
abbrev WT := EnvD → AH → (Bool → AH → Prop) → KX → Prop
abbrev WA := EnvD → AH → (List D → AH → Prop) → KX → Prop
structure EndsD where
  nx : EnvD → AH → Prop
  rt : KD
  bk : EnvD → AH → Prop := fun _ _ => False
  ct : EnvD → AH → Prop := fun _ _ => False
  ex : KX
abbrev WS := EndsD → EnvD → AH → Prop

/-! ### the lifts -/
def LQ (K : PySem.W.Frag) (F : Hp) (Q : VK) : KD := fun d h' => ∀ F' H' v, Ext F F' → Sim K F' h' H' → Rep K F' d v → Q v H'
def LB (K : PySem.W.Frag) (F : Hp) (Q : Bool → Hp → Prop) : Bool → AH → Prop := fun b h' => ∀ F' H', Ext F F' → Sim K F' h' H' → Q b H'
def LA (K : PySem.W.Frag) (F : Hp) (Q : List V → Hp → Prop) : List D → AH → Prop := fun ds h' => ∀ F' H' vs, Ext F F' → Sim K F' h' H' → Reps K F' ds vs → Q vs H'
def LS (K : PySem.W.Frag) (F : Hp) (Q : St → Hp → Prop) : EnvD → AH → Prop := fun ρ' h' => ∀ F' H' σ', Ext F F' → Sim K F' h' H' → EnvR K F' ρ' σ' → Q σ' H'
def LX (K : PySem.W.Frag) (F : Hp) (E : XK) : KX := fun x h' => ∀ F' H' cls d, Ext F F' → Sim K F' h' H' → RepX K F' H' x cls d → E cls d H'
def LD (K : PySem.W.Frag) (F : Hp) (D : Ends) (E : XK) : EndsD := { nx := LS K F D.nx, rt := LQ K F D.rt, bk := LS K F D.bk, ct := LS K F D.ct, ex := LX K F E }
section
variable {K : PySem.W.Frag} {F F' : Hp}
theorem LQ.ext (e : Ext F F') {Q : VK} {d : D} {h : AH} (q : LQ K F Q d h) : LQ K F' Q d h := fun G H v a b c => q G H v (e.trans a) b c
theorem LB.ext (e : Ext F F') {Q : Bool → Hp → Prop} {d : Bool} {h : AH} (q : LB K F Q d h) : LB K F' Q d h := fun G H a b => q G H (e.trans a) b
theorem LA.ext (e : Ext F F') {Q : List V → Hp → Prop} {d : List D} {h : AH} (q : LA K F Q d h) : LA K F' Q d h := fun G H v a b c => q G H v (e.trans a) b c
theorem LS.ext (e : Ext F F') {Q : St → Hp → Prop} {d : EnvD} {h : AH} (q : LS K F Q d h) : LS K F' Q d h := fun G H v a b c => q G H v (e.trans a) b c
theorem LX.ext (e : Ext F F') {E : XK} {d : DX} {h : AH} (q : LX K F E d h) : LX K F' E d h := fun G H v w a b c => q G H v w (e.trans a) b c
end
def tE (K : PySem.W.Frag) (E : XK) (w : WE) : TE := fun σ H Q => ∃ F ρ h, Sim K F h H ∧ EnvR K F ρ σ ∧ w ρ h (LQ K F Q) (LX K F E)
def tT (K : PySem.W.Frag) (E : XK) (w : WT) : TT := fun σ H Q => ∃ F ρ h, Sim K F h H ∧ EnvR K F ρ σ ∧ w ρ h (LB K F Q) (LX K F E)
def tA (K : PySem.W.Frag) (E : XK) (w : WA) : TA := fun σ H Q => ∃ F ρ h, Sim K F h H ∧ EnvR K F ρ σ ∧ w ρ h (LA K F Q) (LX K F E)
def tS (K : PySem.W.Frag) (E : XK) (w : WS) : TS := fun D σ H => ∃ F ρ h, Sim K F h H ∧ EnvR K F ρ σ ∧ w (LD K F D E) ρ h
structure EndsD.Le (D D' : EndsD) : Prop where
  nx : ∀ ρ h, D.nx ρ h → D'.nx ρ h
  rt : ∀ d h, D.rt d h → D'.rt d h
  bk : ∀ ρ h, D.bk ρ h → D'.bk ρ h
  ct : ∀ ρ h, D.ct ρ h → D'.ct ρ h
  ex : ∀ x h, D.ex x h → D'.ex x h
theorem LD.ext {K : PySem.W.Frag} {F F' : Hp} (e : Ext F F') {D : Ends} {E : XK} : (LD K F D E).Le (LD K F' D E) :=
  ⟨fun _ _ q => LS.ext e q, fun _ _ q => LQ.ext e q, fun _ _ q => LS.ext e q, fun _ _ q => LS.ext e q, fun _ _ q => LX.ext e q⟩
theorem EndsD.Le.refl (D : EndsD) : D.Le D := ⟨fun _ _ q => q, fun _ _ q => q, fun _ _ q => q, fun _ _ q => q, fun _ _ q => q⟩
/-- monotone -/
def MoE (w : WE) : Prop := ∀ ρ h Q Q' X X', (∀ d h, Q d h → Q' d h) → (∀ x h, X x h → X' x h) → w ρ h Q X → w ρ h Q' X'
def MoT (w : WT) : Prop := ∀ ρ h Q Q' X X', (∀ d h, Q d h → Q' d h) → (∀ x h, X x h → X' x h) → w ρ h Q X → w ρ h Q' X'
def MoA (w : WA) : Prop := ∀ ρ h Q Q' X X', (∀ d h, Q d h → Q' d h) → (∀ x h, X x h → X' x h) → w ρ h Q X → w ρ h Q' X'
def MoS (w : WS) : Prop := ∀ D D' ρ h, D.Le D' → w D ρ h → w D' ρ h

/-! ### the judgements -/
structure AE (X : Cx) (E : XK) (e : Expr) (w : WE) : Prop where
  run : PE X e (tE X.K E w)
  mo : MoE w
structure AT (X : Cx) (E : XK) (e : Expr) (w : WT) : Prop where
  run : PT X e (tT X.K E w)
  mo : MoT w
structure AW (X : Cx) (E : XK) (e : Expr) (w : WT) : Prop where
  run : PW X e (tT X.K E w)
  mo : MoT w
structure AA (X : Cx) (E : XK) (es : List Expr) (w : WA) : Prop where
  run : PA X es (tA X.K E w)
  mo : MoA w
structure AS (X : Cx) (E : XK) (st : Stmt) (w : WS) : Prop where
  run : PS X st (tS X.K E w)
  mo : MoS w
structure ASs (X : Cx) (E : XK) (sts : List Stmt) (w : WS) : Prop where
  run : PSs X sts (tS X.K E w)
  mo : MoS w
theorem PE.imp {X : Cx} {e : Expr} {t t' : TE} (p : PE X e t) (h : ∀ σ H Q, t' σ H Q → t σ H Q) : PE X e t' := ⟨fun pins s σ H Q I q => p.run pins s σ H Q I (h _ _ _ q)⟩
theorem PT.imp {X : Cx} {e : Expr} {t t' : TT} (p : PT X e t) (h : ∀ σ H Q, t' σ H Q → t σ H Q) : PT X e t' := ⟨fun pins s σ H Q I q => p.run pins s σ H Q I (h _ _ _ q)⟩
theorem PW.imp {X : Cx} {e : Expr} {t t' : TT} (p : PW X e t) (h : ∀ σ H Q, t' σ H Q → t σ H Q) : PW X e t' := ⟨fun wh pins s σ H Q I q => p.run wh pins s σ H Q I (h _ _ _ q)⟩
theorem PA.imp {X : Cx} {e : List Expr} {t t' : TA} (p : PA X e t) (h : ∀ σ H Q, t' σ H Q → t σ H Q) : PA X e t' := ⟨fun pos pins s σ H Q I q => p.run pos pins s σ H Q I (h _ _ _ q)⟩
theorem PS.imp {X : Cx} {e : Stmt} {t t' : TS} (p : PS X e t) (h : ∀ D σ H, t' D σ H → t D σ H) : PS X e t' := ⟨fun pins s σ H Q I q => p.run pins s σ H Q I (h _ _ _ q)⟩
theorem PSs.imp {X : Cx} {e : List Stmt} {t t' : TS} (p : PSs X e t) (h : ∀ D σ H, t' D σ H → t D σ H) : PSs X e t' := ⟨fun pins s σ H Q I q => p.run pins s σ H Q I (h _ _ _ q)⟩
end DL
namespace DL
open PySem PySem.Spec L2

/-! ### a def's promise over data -/
abbrev FSpec := List D → AH → KD → KX → Prop
def MoF (S : FSpec) : Prop := ∀ ds h Q Q' X X', (∀ d h, Q d h → Q' d h) → (∀ x h, X x h → X' x h) → S ds h Q X → S ds h Q' X'
def spD (K : PySem.W.Frag) (S : FSpec) : Sp := fun vs H Q E => ∃ F ds h, Sim K F h H ∧ Reps K F ds vs ∧ S ds h (LQ K F Q) (LX K F E)

/-- what is asked around a piece of code -/
structure Cg (gz : Bool) (X : Cx) (E : XK) (k : Nat) : Prop where
  room : Room k X.A
  gd : gz = true → X.A.guards = some []
  calm : X.calm = true
  nd : X.N.Nodup
  ps : Passes (L2.CX X.prog X.w) X E
  po : PassesOwn (model X.prog X.w) X.A X.env X.xe
theorem Cg.mono {gz : Bool} {X : Cx} {E : XK} {j k : Nat} (c : Cg gz X E k) (h : j ≤ k) : Cg gz X E j := ⟨c.room.mono h, c.gd, c.calm, c.nd, c.ps, c.po⟩

/-- a def at f keeps its promise: ahead of it no guard runs -/
structure FnG (gz : Bool) (P : Program) (w : World) (K : PySem.W.Frag) (mg : Str → Option Value) (base : Heap) (k : Nat) (f : Addr) (fd : FuncData) (ps : List Str) (S : FSpec) : Prop where
  len : ∀ ds h Q X, S ds h Q X → ds.length = ps.length
  mo : MoF S
  run : ∀ {A : Around} {outer : List Env} {s : Shared} {H : Hp} {args : Args} {us : List Value} {vs : List V} {Q : VK} {E : XK},
    Room k A → (gz = true → A.guards = some []) → Env0 P w K mg base A outer s H → BindsTo s fd args (ps.zip us) → Vals vs us → spD K S vs H Q E →
    codeAny (model P w) A (.call (.ref f) args) (CR (L2.CX P w) outer P w H s Q E) s
theorem FnG.mono {gz : Bool} {P : Program} {w : World} {K : PySem.W.Frag} {mg : Str → Option Value} {base : Heap} {j k : Nat} {f : Addr} {fd : FuncData} {ps : List Str} {S : FSpec}
    (G : FnG gz P w K mg base j f fd ps S) (h : j ≤ k) : FnG gz P w K mg base k f fd ps S :=
  ⟨G.len, G.mo, fun r g e b v q => G.run (r.mono h) g e b v q⟩

theorem spD_len {K : PySem.W.Frag} {S : FSpec} {n : Nat} (l : ∀ ds h Q X, S ds h Q X → ds.length = n) {vs : List V} {H : Hp} {Q : VK} {E : XK} (h : spD K S vs H Q E) : vs.length = n := by
  obtain ⟨F, ds, g, _, r, q⟩ := h
  rw [← r.length]; exact l _ _ _ _ q

theorem guards_deeper {A : Around} {env : PySem.Env} (g : A.guards = some []) : (A.deeper env).guards = some [] := by
  show A.guards = some []
  exact g

/-! ### from a body to the promise -/
/-- what may be told of a result: parts are dropped, a list that stands alone is frozen -/
inductive Fz : D → AH → D → AH → Prop where
  | sub {d : D} {h g : AH} : Sub g h → Fz d h d g
  | lst {a : Addr} {xs : List D} {h g : AH} : h a = some (.lst xs) → g a = none → Sub g h → Fz (.ref a) h (.lst xs) g
  | dK {a : Addr} {xs : List (Key × D)} {h g : AH} : h a = some (.dK xs) → g a = none → Sub g h → Fz (.ref a) h (.dK xs) g
  | dT {a : Addr} {xs : List (List Key × D)} {h g : AH} : h a = some (.dT xs) → g a = none → Sub g h → Fz (.ref a) h (.dT xs) g
  | tup1 {a : Addr} {xs ys : List D} {h g : AH} : h a = some (.lst xs) → g a = none → Sub g h → Fz (.tup (.ref a :: ys)) h (.tup (.lst xs :: ys)) g
def fin (Q : KD) : KD := fun d h => ∃ d' g, Fz d h d' g ∧ Q d' g
theorem fin_of {Q : KD} {d : D} {h : AH} (q : Q d h) : fin Q d h := ⟨d, h, .sub (.refl h), q⟩
theorem fin_sub {Q : KD} {d : D} {h g : AH} (s : Sub g h) (q : Q d g) : fin Q d h := ⟨d, g, .sub s, q⟩
theorem fin_new {Q : KD} {d : D} {h : AH} {p : Addr} {o : AO} (e : h p = none) (q : Q d h) : fin Q d (up h p o) := ⟨d, h, .sub (sub_up e), q⟩
theorem fin_lst {Q : KD} {h : AH} {p : Addr} {xs : List D} (e : h p = none) (q : Q (.lst xs) h) : fin Q (.ref p) (up h p (.lst xs)) := ⟨_, h, .lst up_same e (sub_up e), q⟩
theorem fin_dK {Q : KD} {h : AH} {p : Addr} {xs : List (Key × D)} (e : h p = none) (q : Q (.dK xs) h) : fin Q (.ref p) (up h p (.dK xs)) := ⟨_, h, .dK up_same e (sub_up e), q⟩
theorem fin_tup1 {Q : KD} {h : AH} {p : Addr} {xs ys : List D} (e : h p = none) (q : Q (.tup (.lst xs :: ys)) h) : fin Q (.tup (.ref p :: ys)) (up h p (.lst xs)) := ⟨_, h, .tup1 up_same e (sub_up e), q⟩
theorem fin_dT {Q : KD} {h : AH} {p : Addr} {xs : List (List Key × D)} (e : h p = none) (q : Q (.dT xs) h) : fin Q (.ref p) (up h p (.dT xs)) := ⟨_, h, .dT up_same e (sub_up e), q⟩

/-- a list among the changing ones is made one that does not change -/
theorem Sim.frz {K : PySem.W.Frag} {F : Hp} {h g : AH} {H : Hp} {a : Addr} {o : AO} {u : HO} (S : Sim K F h H) (e : h a = some o) (eu : H a = some u) (n : g a = none) (s : Sub g h) : Ext F (upd F a u) ∧ Sim K (upd F a u) g H := by
  obtain ⟨f, _⟩ := S.ob _ _ e
  refine ⟨ext_upd f, fun b v q => ?_, fun b v q => ?_⟩
  · by_cases c : b = a
    · subst c; rw [upd_same] at q; cases q; exact eu
    · rw [upd_ne c] at q; exact S.fz _ _ q
  · have c : b ≠ a := by rintro rfl; rw [n] at q; cases q
    obtain ⟨f1, w, hw, r⟩ := S.ob _ _ (s _ _ q)
    exact ⟨by rw [upd_ne c]; exact f1, w, hw, r.ext (ext_upd f)⟩
theorem LQ.fin {K : PySem.W.Frag} {F : Hp} {Q : VK} {d : D} {h : AH} (q : fin (LQ K F Q) d h) : LQ K F Q d h := by
  intro F' H' v e S r
  obtain ⟨d', g, z, q⟩ := q
  cases z with
  | sub s => exact q F' H' v e (S.sub s) r
  | @lst a xs _ _ ha hg s =>
    cases r
    obtain ⟨f, u, hu, vs, rfl, rs⟩ := S.ob _ _ ha
    obtain ⟨e2, S2⟩ := S.frz ha hu hg s
    exact q _ _ _ (e.trans e2) S2 (.lst upd_same (rs.ext e2))
  | @dK a xs _ _ ha hg s =>
    cases r
    obtain ⟨f, u, hu, vs, rfl, rs⟩ := S.ob _ _ ha
    obtain ⟨e2, S2⟩ := S.frz ha hu hg s
    exact q _ _ _ (e.trans e2) S2 (.dK upd_same (rs.ext e2))
  | @dT a xs _ _ ha hg s =>
    cases r
    obtain ⟨f, u, hu, vs, rfl, rs⟩ := S.ob _ _ ha
    obtain ⟨e2, S2⟩ := S.frz ha hu hg s
    exact q _ _ _ (e.trans e2) S2 (.dT upd_same (rs.ext e2))
  | @tup1 a xs ys _ _ ha hg s =>
    cases r with
    | tup hq rr =>
      cases rr with
      | cons r1 rt =>
        cases r1
        obtain ⟨f, u, hu, vs, rfl, rs⟩ := S.ob _ _ ha
        obtain ⟨e2, S2⟩ := S.frz ha hu hg s
        exact q _ _ _ (e.trans e2) S2 (.tup (e2.sqt hq) (.cons (.lst upd_same (rs.ext e2)) (rt.ext e2)))

def startD (n : Nat) (ds : List D) : EnvD := ds.map some ++ List.replicate (n - ds.length) none
def endsD (Q : KD) (X : KX) : EndsD := { nx := fun _ h => fin Q .non h, rt := fin Q, ex := X }
theorem start_env {K : PySem.W.Frag} {F : Hp} {N : List Str} {ds : List D} {vs : List V} (r : Reps K F ds vs) : EnvR K F (startD N.length ds) (L2.start N vs) := by
  have l := r.length
  refine ⟨by simp [startD, L2.start, l], fun i d e => ?_⟩
  unfold startD at e
  by_cases c : i < ds.length
  · rw [List.getElem?_append_left (by simpa using c), List.getElem?_map] at e
    cases q : ds[i]? with
    | none => rw [q] at e; cases e
    | some x =>
      rw [q] at e; cases e
      obtain ⟨v, h1, h2⟩ := r.get q
      refine ⟨v, ?_, h2⟩
      unfold L2.start
      rw [List.getElem?_append_left (by rw [List.length_map, ← l]; exact c), List.getElem?_map, h1]
      rfl
  · rw [List.getElem?_append_right (by simpa using c), List.getElem?_replicate] at e
    split at e <;> cases e


section
variable {P : Program} {w : World} {K : PySem.W.Frag} {mg : Str → Option Value} {base : Heap}
/-- THE RULE for a def: its body as a term of rules, and what it computes over data -/
theorem fng_of {gz : Bool} {x qual : Str} {st : Stmt} {f : Addr} {fd : FuncData} {N ps : List Str} {k : Nat} {S : FSpec} {W : WS}
    (F : Fun K x qual st f fd) (sc : FnScope N ps (defScope st)) (len : ∀ ds h Q X, S ds h Q X → ds.length = ps.length) (mo : MoF S)
    (body : ∀ (cdv : Value) (A : Around) (outer : List PySem.Env) (s : Shared) (H : Hp) (E : XK), Cg gz (cxOf (L2.CX P w) P w K mg base N qual (defScope st) f cdv A outer s H E) E k →
      ASs (cxOf (L2.CX P w) P w K mg base N qual (defScope st) f cdv A outer s H E) E (defBody st) W)
    (pure : ∀ ds h Q X, S ds h Q X → W (endsD Q X) (startD N.length ds) h) : FnG gz P w K mg base (k + 1) f fd ps S := by
  refine ⟨len, mo, fun {A outer s H args us vs Q E} hr hg e0 hb hv hs => ?_⟩
  obtain ⟨oc, od, kV, doc, pm, an, cdv, ct, osl, rfl, lk, hcd⟩ := F.ex
  have lenv := spD_len len hs
  have inK : K.In s.heap := e0.mod.kin.keeps fun b o e =>
    (e0.bs b o e).1
  have nol : s.heap.NoLimit := e0.mod.nolimit.keeps fun b o e =>
    (e0.bs b o e).1
  have kinds : ∀ y ∈ ps.zip us, (defScope st).names.lookup y.1 = some .local ∨
      ((defScope st).names.lookup y.1 = some .cell ∧ ((cellsFrom (s.heap.objs.size + 1) (defScope st).names []).lookup y.1).isSome = true) := by
    rintro ⟨n, v⟩ hy
    cases sc.par n (List.of_mem_zip hy).1 with
    | inl q => exact .inl q
    | inr q => exact .inr ⟨q, PySem.W.cellsFrom_some _ _ _ (.inl q)⟩
  refine codeAny_call_function hr.depth (inK _ _ lk) rfl
    sc.co sc.gen rfl (PySem.W.codeRec_of inK hcd) (hb _ _ _ _ ?_)
  refine wpAny_newFunctionEnv_cells sc.kind kinds
    fun env he s1 ic => ?_
  subst he
  refine ⟨nol.keeps ic.toInCall.keep,
    codeAny_func ?_⟩
  have I := inv_start (CX := L2.CX P w) (P := P) (w := w) (mg := mg) (base := base) (E := E) sc hr.hd e0 lenv hv ic
  have c : Cg gz (cxOf (L2.CX P w) P w K mg base N qual (defScope st) f cdv A outer s H E) E k :=
    ⟨hr.deeper _, hg, rfl, sc.nd, passes_call (takes_of rfl rfl rfl rfl) fun _ _ _ _ z => z, passes_of rfl⟩
  obtain ⟨F0, ds, g, S0, r0, q0⟩ := hs
  have B := body cdv A outer s H E c
  have go : tS K E W { nx := fun _ H' => Q .non H', rt := Q } (L2.start N vs) H := by
    refine ⟨F0, _, g, S0, start_env r0, B.mo (endsD (LQ K F0 Q) (LX K F0 E)) _ _ _ ⟨fun ρ h z => ?_, fun d h z => LQ.fin z, fun _ _ z => False.elim z, fun _ _ z => False.elim z, fun _ _ z => z⟩ (pure ds g _ _ q0)⟩
    exact fun F' H' σ' e S' _ => LQ.fin z F' H' .non e S' .non
  refine wpAny_mono (B.run.run [] s1 _ H _ I go) (fun fl s' hq => ?_) fun e s' hq => hq
  cases fl with
  | ret u =>
    obtain ⟨v, σ', H', J, rv, q⟩ := hq
    exact ⟨v, H', J.os, J.bare, J.base, J.hok, rv, q⟩
  | next =>
    obtain ⟨σ', H', J, q⟩ := hq
    exact ⟨.non, H', J.os, J.bare, J.base, J.hok, rfl, q⟩
  | brk => obtain ⟨_, _, _, q⟩ := hq; exact q.elim
  | cont => obtain ⟨_, _, _, q⟩ := hq; exact q.elim
end

/-! ### calls -/
/-- how n positional values and the keywords' values (names ks) come to the parameters -/
structure Bnd (K : PySem.W.Frag) (fd : FuncData) (ps : List Str) (n : Nat) (ks : List Str) (g : List D → List D → List D) : Prop where
  to : ∀ (s : Shared) (F : Hp) (ds zs : List D) (vs ys : List V) (us ws : List Value), K.In s.heap → ds.length = n → zs.length = ks.length →
    Reps K F ds vs → Vals vs us → Reps K F zs ys → Vals ys ws → ∃ xs ts, Reps K F (g ds zs) xs ∧ Vals xs ts ∧ BindsTo s fd ⟨us, ks.zip ws⟩ (ps.zip ts)
theorem Bnd.plain {K : PySem.W.Frag} {fd : FuncData} {ps : List Str} (h : ∀ us : List Value, us.length = ps.length → bindArgs fd ⟨us, []⟩ = pure (ps.zip us)) : Bnd K fd ps ps.length [] (fun ds _ => ds) := by
  refine ⟨fun s F ds zs vs ys us ws X l1 l2 r1 r2 r3 r4 => ⟨vs, us, r1, r2, ?_⟩⟩
  have l : us.length = ps.length := by rw [← r2.length, ← r1.length]; exact l1
  cases zs with
  | cons _ _ => cases l2
  | nil => cases r3; cases r4; exact .of_eq (h us l)
/-- a def that a name of the module holds -/
structure Cal (gz : Bool) (P : Program) (w : World) (K : PySem.W.Frag) (mg : Str → Option Value) (base : Heap) (x : Str) (k n : Nat) (ks : List Str) (g : List D → List D → List D) (S : FSpec) : Prop where
  ex : ∃ f fd ps, mg x = some (.ref f) ∧ PySem.W.keepIn K (.ref f) = true ∧ FnG gz P w K mg base k f fd ps S ∧ Bnd K fd ps n ks g

section
variable {X : Cx} {E : XK} {k n : Nat} {ks : List Str} {g : List D → List D → List D} {S : FSpec} {x : Str} {p pos : Pos} {e : Expr} {es : List Expr} {wa wk : WA}
theorem run_g {gz gy : Bool} {pins : List (Addr × Obj)} {σ : L2.St} {H : Hp} {s : Shared} {Q : VK} {f : Addr} {fd : FuncData} {ps : List Str} {args : Args} {us : List Value} {vs : List V} (c : Cg gz X E k)
    (G : FnG gy X.prog X.w X.K X.mg X.base k f fd ps S) (hz : gy = true → gz = true) (I : Inv X pins σ H s) (hb : BindsTo s fd args (ps.zip us)) (r : Vals vs us) (h : spD X.K S vs H Q E) :
    codeAny (model X.prog X.w) X.A (.call (.ref f) args) (fun r s' => match r with | .ok (.ret u) => EP X pins σ Q u s' | .ok _ => False | .error e => X.xe e s') s := by
  refine codeAny_mono (G.run c.room (fun z => c.gd (hz z)) I.env0 hb r h) fun r s' hq => ?_
  match r, hq with
  | .error e, hq => exact c.ps pins σ H s e s' I hq
  | .ok (.ret u), hq => exact I.after hq
  | .ok .next, hq => exact hq.elim
  | .ok .brk, hq => exact hq.elim
  | .ok .cont, hq => exact hq.elim
end
/-- f(..): n positional values, keywords -/
def wCall (S : FSpec) (n m : Nat) (g : List D → List D → List D) (wa wk : WA) : WE := fun ρ h Q X => wa ρ h (fun ds h1 => wk ρ h1 (fun zs h2 => ds.length = n ∧ zs.length = m ∧ S (g ds zs) h2 Q X) X) X
end DL
namespace DL
open PySem PySem.Spec L2

/-! ### data as the library's own data -/
mutual
def pd : D → PyData
  | .non => .none
  | .bl b => .bool b
  | .int i => .int i
  | .str s => .str s
  | .tup xs => .tuple (pds xs)
  | .tpl xs => .tuple (pds xs)
  | .lst xs => .list (pds xs)
  | .ref _ => .none
  | .ty _ => .none
  | .lk _ => .none
  | .ob _ _ => .none
  | .dK _ => .none
  | .dT _ => .none
def pds : List D → List PyData
  | [] => []
  | x :: xs => pd x :: pds xs
end
mutual
def dat : D → Bool
  | .non => true
  | .bl _ => true
  | .int _ => true
  | .str _ => true
  | .tup xs => dats xs
  | .tpl xs => dats xs
  | .lst xs => dats xs
  | .ref _ => false
  | .ty _ => false
  | .lk _ => false
  | .ob _ _ => false
  | .dK _ => false
  | .dT _ => false
def dats : List D → Bool
  | [] => true
  | x :: xs => dat x && dats xs
end
theorem pds_map : ∀ xs : List D, pds xs = xs.map pd
  | [] => rfl
  | x :: xs => by rw [pds, pds_map xs]; rfl
theorem dats_all : ∀ xs : List D, dats xs = xs.all dat
  | [] => rfl
  | x :: xs => by rw [dats, dats_all xs]; rfl
/-- a list or dict that may change, as it stands now -/
def cur (h : AH) : D → D
  | .ref a => match h a with
    | some (.lst xs) => .lst xs
    | some (.dK kvs) => .dK kvs
    | some (.dT kvs) => .dT kvs
    | _ => .ref a
  | d => d
section
variable {K : PySem.W.Frag} {F H : Hp}
theorem sqt_of {a : Addr} {vs : List V} (e : ∀ a o, F a = some o → H a = some o) (h : SqT K F a vs) : SqT K H a vs := Ext.sqt e h
mutual
theorem Rep.dp (e : ∀ a o, F a = some o → H a = some o) : ∀ {d : D} {v : V}, Rep K F d v → dat d = true → Dp K H v (pd d)
  | _, _, .non, _ => by rw [pd]; exact .non
  | _, _, .bl b, _ => by rw [pd]; exact .bl b
  | _, _, .int i, _ => by rw [pd]; exact .int i
  | _, _, .str s, _ => by rw [pd]; exact .str s
  | _, _, .ref a, h => by rw [dat] at h; cases h
  | _, _, .ty n, h => by rw [dat] at h; cases h
  | _, _, .lk _ _, h => by rw [dat] at h; cases h
  | _, _, .ob _ _, h => by rw [dat] at h; cases h
  | _, _, .dK _ _, h => by rw [dat] at h; cases h
  | _, _, .dT _ _, h => by rw [dat] at h; cases h
  | _, _, .tup h r, q => by rw [dat] at q; rw [pd]; exact .tup (sqt_of e h) (Reps.dp e r q)
  | _, _, .tpl h hd r, q => by rw [dat] at q; rw [pd]; exact .tup (sqt_of e (.inl (.inr ⟨_, h⟩))) (Reps.dp e r q)
  | _, _, .lst h r, q => by rw [dat] at q; rw [pd]; exact .lst (.of (e _ _ h)) (Reps.dp e r q)
theorem Reps.dp (e : ∀ a o, F a = some o → H a = some o) : ∀ {ds : List D} {vs : List V}, Reps K F ds vs → dats ds = true → DpAll K H vs (pds ds)
  | _, _, .nil, _ => by rw [pds]; exact .nil
  | _, _, .cons h t, q => by
    rw [dats, Bool.and_eq_true] at q
    rw [pds]; exact .cons (Rep.dp e h q.1) (Reps.dp e t q.2)
end
theorem Sim.curDp {h : AH} (S : Sim K F h H) {d : D} {v : V} (r : Rep K F d v) (q : dat (cur h d) = true) : Dp K H v (pd (cur h d)) := by
  have base : ∀ {d : D} {v : V}, Rep K F d v → dat d = true → Dp K H v (pd d) := fun r q => r.dp S.fz q
  cases r with
  | ref a =>
    cases e : h a with
    | none => simp [cur, e, dat] at q
    | some o =>
      cases o with
      | lst xs =>
        obtain ⟨_, u, hu, vs, rfl, rs⟩ := S.ob _ _ e
        simp only [cur, e, dat] at q
        simp only [cur, e, pd]
        exact .lst (.of hu) (rs.dp S.fz q)
      | dK _ => simp [cur, e, dat] at q
      | dT _ => simp [cur, e, dat] at q
      | ins _ _ => simp [cur, e, dat] at q
      | lck _ => simp [cur, e, dat] at q
  | non => exact base .non q
  | bl b => exact base (.bl b) q
  | int i => exact base (.int i) q
  | str s => exact base (.str s) q
  | ty n => exact base (.ty n) q
  | tup h r => exact base (.tup h r) q
  | tpl h hd r => exact base (.tpl h hd r) q
  | lst h r => exact base (.lst h r) q
  | dK h r => exact base (.dK h r) q
  | dT h r => exact base (.dT h r) q
  | lk h r => exact base (.lk h r) q
  | ob h r => exact base (.ob h r) q
end

/-! ### lists -/
def lstOf (h : AH) : D → Option (List D)
  | .lst xs => some xs
  | .ref a => match h a with
    | some (.lst xs) => some xs
    | _ => none
  | _ => none
def seqOf (h : AH) : D → Option (List D)
  | .tup xs => some xs
  | .tpl xs => some xs
  | d => lstOf h d
def newL (m : Bool) (xs : List D) (h : AH) (Q : KD) : Prop := if m = true then ∀ p, h p = none → Q (.ref p) (up h p (.lst xs)) else Q (.lst xs) h
section
variable {K : PySem.W.Frag} {F : Hp} {h : AH} {H : Hp} {d : D} {v : V} {xs : List D}
theorem Sim.lstOf (S : Sim K F h H) (r : Rep K F d v) (e : lstOf h d = some xs) : ∃ a vs, v = .ref a ∧ H a = some (.lst vs) ∧ Reps K F xs vs := by
  cases r with
  | ref a =>
    cases q : h a with
    | none => simp [DL.lstOf, q] at e
    | some o =>
      cases o with
      | lst ys =>
        simp only [DL.lstOf, q, Option.some.injEq] at e
        subst e
        obtain ⟨_, u, hu, vs, rfl, rs⟩ := S.ob _ _ q
        exact ⟨a, vs, rfl, hu, rs⟩
      | dK _ => simp [DL.lstOf, q] at e
      | dT _ => simp [DL.lstOf, q] at e
      | ins _ _ => simp [DL.lstOf, q] at e
      | lck _ => simp [DL.lstOf, q] at e
  | @lst a ys vs hf rs =>
    cases e
    exact ⟨a, vs, rfl, S.fz _ _ hf, rs⟩
  | non => cases e
  | bl _ => cases e
  | int _ => cases e
  | str _ => cases e
  | ty _ => cases e
  | lk _ _ => cases e
  | ob _ _ => cases e
  | tup _ _ => cases e
  | tpl _ _ _ => cases e
  | dK _ _ => cases e
  | dT _ _ => cases e
theorem Sim.seqOf (S : Sim K F h H) (r : Rep K F d v) (e : seqOf h d = some xs) : ∃ a vs, v = .ref a ∧ (SqL K H a vs ∨ SqT K H a vs) ∧ Reps K F xs vs := by
  by_cases c : ∃ ys, d = .tup ys
  · obtain ⟨ys, rfl⟩ := c
    cases r with
    | @tup a _ vs hf rs =>
      cases e
      exact ⟨a, vs, rfl, .inr (sqt_of S.fz hf), rs⟩
  by_cases c2 : ∃ ys, d = .tpl ys
  · obtain ⟨ys, rfl⟩ := c2
    cases r with
    | @tpl a _ _ vs hf _ rs =>
      cases e
      exact ⟨a, vs, rfl, .inr (sqt_of S.fz (.inl (.inr ⟨_, hf⟩))), rs⟩
  · have e' : DL.lstOf h d = some xs := by
      cases d <;> first | exact e | exact absurd ⟨_, rfl⟩ c | exact absurd ⟨_, rfl⟩ c2
    obtain ⟨a, vs, r1, r2, r3⟩ := S.lstOf r e'
    exact ⟨a, vs, r1, .inl (.of r2), r3⟩
theorem Sim.newL {m : Bool} {vs : List V} {Q : VK} (S : Sim K F h H) (r : Reps K F xs vs) (q : newL m xs h (LQ K F Q)) : ∀ p, H p = none → Q (.ref p) (upd H p (.lst vs)) := by
  intro p hp
  obtain ⟨f, g⟩ := S.free hp
  unfold DL.newL at q
  split at q
  · exact q p g F _ _ (.refl F) (S.newM hp ⟨vs, rfl, r⟩) (.ref p)
  · exact q _ _ _ (ext_upd f) (S.newF hp _) (.lst upd_same (r.ext (ext_upd f)))
theorem newL_mo {m : Bool} {Q Q' : KD} (hq : ∀ d h, Q d h → Q' d h) (q : newL m xs h Q) : newL m xs h Q' := by
  unfold newL at *
  split at q
  · rename_i c; rw [if_pos c]; exact fun p e => hq _ _ (q p e)
  · rename_i c; rw [if_neg c]; exact hq _ _ q
@[simp] theorem newL_t {Q : KD} : newL true xs h Q = ∀ p, h p = none → Q (.ref p) (up h p (.lst xs)) := by simp [newL]
@[simp] theorem newL_f {Q : KD} : newL false xs h Q = Q (.lst xs) h := by simp [newL]
/-- a new tuple -/
theorem Sim.newT {vs : List V} {Q : VK} (S : Sim K F h H) (r : Reps K F xs vs) (q : LQ K F Q (.tup xs) h) : ∀ p, H p = none → Q (.ref p) (upd H p (.tup vs)) := by
  intro p hp
  obtain ⟨f, g⟩ := S.free hp
  exact q _ _ _ (ext_upd f) (S.newF hp _) (.tup (.of upd_same) (r.ext (ext_upd f)))
theorem LQ.at {Q : VK} (q : LQ K F Q d h) (S : Sim K F h H) (r : Rep K F d v) : Q v H := q F H v (.refl F) S r
end

/-! ### operators over data -/
structure OpD (K : PySem.W.Frag) (r : V → V → Hp → VK → Prop) (f : D → D → AH → KD → Prop) : Prop where
  to : ∀ {F h H x y vx vy} {Q : VK}, Sim K F h H → Rep K F x vx → Rep K F y vy → f x y h (LQ K F Q) → r vx vy H Q
  mo : ∀ {x y h} {Q Q' : KD}, (∀ d h, Q d h → Q' d h) → f x y h Q → f x y h Q'

def MulOk (i j : Int) : Prop := (-(2 ^ 64) < i ∧ i < 2 ^ 64) ∨ (-(2 ^ 64) < j ∧ j < 2 ^ 64) ∨ i.natAbs.log2 + j.natAbs.log2 < 1000000
def DivOk (j : Int) : Prop := 0 < j ∧ (j < 1073741824 ∨ j.natAbs.log2 < 9000)
def PowOk (i j : Int) : Prop := 0 ≤ j ∧ j ≤ 1000000 ∧ i.natAbs < 2 ^ 64

def dAdd (m : Bool) (x y : D) (h : AH) (Q : KD) : Prop := match x, y with
  | .int i, .int j => Q (.int (i + j)) h
  | .str a, .str b => a.length + b.length ≤ sizeLine ∧ Q (.str (a ++ b)) h
  | .tup xs, .tup ys => xs.length + ys.length ≤ sizeLine ∧ Q (.tup (xs ++ ys)) h
  | x, y => ∃ xs ys, lstOf h x = some xs ∧ lstOf h y = some ys ∧ xs.length + ys.length ≤ sizeLine ∧ newL m (xs ++ ys) h Q
def dSub (x y : D) (h : AH) (Q : KD) : Prop := match x, y with
  | .int i, .int j => Q (.int (i - j)) h
  | _, _ => False
def dMul (m : Bool) (x y : D) (h : AH) (Q : KD) : Prop := match x, y with
  | .int i, .int j => MulOk i j ∧ Q (.int (i * j)) h
  | x, .int k => ∃ xs, lstOf h x = some xs ∧ k < 2 ^ 62 ∧ -(2 ^ 62) < k ∧ xs.length * k.toNat ≤ sizeLine ∧ newL m (List.replicate k.toNat xs).flatten h Q
  | _, _ => False
def dDiv (x y : D) (h : AH) (Q : KD) : Prop := match x, y with
  | .int i, .int j => DivOk j ∧ Q (.int (i / j)) h
  | _, _ => False
def dMod (x y : D) (h : AH) (Q : KD) : Prop := match x, y with
  | .int i, .int j => 0 < j ∧ Q (.int (i % j)) h
  | _, _ => False
def dPow (x y : D) (h : AH) (Q : KD) : Prop := match x, y with
  | .int i, .int j => PowOk i j ∧ Q (.int (i ^ j.toNat)) h
  | _, _ => False
def dCmpI (f : Int → Int → Bool) (x y : D) (h : AH) (Q : KD) : Prop := match x, y with
  | .int i, .int j => Q (.bl (f i j)) h
  | _, _ => False
/-- == of data -/
def dEq (f : Bool → Bool) (x y : D) (h : AH) (Q : KD) : Prop := match x, y with
  | .int i, .int j => Q (.bl (f (decide (i = j)))) h
  | .str i, .str j => Q (.bl (f (decide (i = j)))) h
  | .bl i, .bl j => Q (.bl (f (decide (i = j)))) h
  | x, y => dat (cur h x) = true ∧ dat (cur h y) = true ∧ SeqAt.shaped (pd (cur h x)) = true ∧ SeqAt.shaped (pd (cur h y)) = true ∧ Q (.bl (f (PyData.eqv (pd (cur h x)) (pd (cur h y))))) h
def dIsN (f : Bool → Bool) (x y : D) (h : AH) (Q : KD) : Prop := match x, y with
  | .non, .non => Q (.bl (f true)) h
  | .bl i, .bl j => Q (.bl (f (decide (i = j)))) h
  | _, .non => Q (.bl (f false)) h
  | _, _ => False

section
variable {X : Cx}
/-- the rule of values that a D-operator stands on -/
def rMul (K : PySem.W.Frag) : R2 := fun x y H Q => rI CMul (fun i j => .int (i * j)) x y H Q ∨ rI CMulW (fun i j => .int (i * j)) x y H Q ∨ rRep x y H Q
theorem op_mulD : OpR X (binaryOp .Mult) (rMul X.K) := OpR.or op_mul (OpR.or op_mulW op_rep)
theorem dMul_ok {K : PySem.W.Frag} {m : Bool} : OpD K (rMul K) (dMul m) where
  to := by
    intro F h H x y vx vy Q S rx ry q
    unfold dMul at q
    split at q
    · cases rx; cases ry
      obtain ⟨c, q⟩ := q
      rcases c with c | c | c
      · exact .inl ⟨_, _, rfl, rfl, .inl c, q.at S (.int _)⟩
      · exact .inl ⟨_, _, rfl, rfl, .inr c, q.at S (.int _)⟩
      · exact .inr (.inl ⟨_, _, rfl, rfl, c, q.at S (.int _)⟩)
    · obtain ⟨xs, e, c1, c2, l, q⟩ := q
      obtain ⟨a, vs, rfl, ha, rs⟩ := S.lstOf rx e
      cases ry
      refine .inr (.inr ⟨a, _, vs, rfl, rfl, ha, by omega, by omega, by rw [← rs.length]; exact l, S.newL (vs := (List.replicate _ vs).flatten) ?_ q⟩)
      generalize Int.toNat _ = n
      induction n with
      | zero => exact .nil
      | succ n ih => rw [List.replicate_succ, List.replicate_succ, List.flatten_cons, List.flatten_cons]; exact rs.append ih
    · exact q.elim
  mo := by
    intro x y h Q Q' hq q
    unfold dMul at *
    split at q
    · exact ⟨q.1, hq _ _ q.2⟩
    · obtain ⟨xs, e, c1, c2, l, q⟩ := q
      exact ⟨xs, e, c1, c2, l, newL_mo hq q⟩
    · exact q.elim
def rAddD (K : PySem.W.Frag) : R2 := fun x y H Q => rI0 (fun i j => .int (i + j)) x y H Q ∨ (∃ i j, x = .str i ∧ y = .str j ∧ i.length + j.length ≤ sizeLine ∧ Q (.str (i ++ j)) H) ∨ rCatA K x y H Q ∨ rCat x y H Q
theorem op_addD : OpR X (binaryOp .Add) (rAddD X.K) := OpR.or op_add (OpR.or op_add_str (OpR.or op_catA op_cat))
theorem reps_nil {K : PySem.W.Frag} {F : Hp} {xs : List D} {vs : List V} (r : Reps K F xs vs) : vs = [] ↔ xs = [] := by
  cases r <;> simp
theorem dAdd_ok {K : PySem.W.Frag} {m : Bool} : OpD K (rAddD K) (dAdd m) where
  to := by
    intro F h H x y vx vy Q S rx ry q
    unfold dAdd at q
    split at q
    · cases rx; cases ry
      exact .inl ⟨_, _, rfl, rfl, q.at S (.int _)⟩
    · cases rx; cases ry
      exact .inr (.inl ⟨_, _, rfl, rfl, q.1, q.2.at S (.str _)⟩)
    · cases rx with
      | @tup a xs vs ha rs =>
      cases ry with
      | @tup b ys ws hb rt =>
      obtain ⟨l, q⟩ := q
      refine .inr (.inr (.inl ⟨a, b, vs, ws, rfl, rfl, sqt_of S.fz ha, sqt_of S.fz hb, by rw [← rs.length, ← rt.length]; exact l, fun e => ?_, fun _ e => ?_, fun _ _ => S.newT (rs.append rt) q⟩))
      · rw [(reps_nil rs).mp e, List.nil_append] at q
        exact q.at S (.tup hb rt)
      · rw [(reps_nil rt).mp e, List.append_nil] at q
        exact q.at S (.tup ha rs)
    · obtain ⟨xs, ys, e1, e2, l, q⟩ := q
      obtain ⟨a, vs, rfl, ha, rs⟩ := S.lstOf rx e1
      obtain ⟨b, ws, rfl, hb, rt⟩ := S.lstOf ry e2
      exact .inr (.inr (.inr ⟨a, b, vs, ws, rfl, rfl, ha, hb, by rw [← rs.length, ← rt.length]; exact l, S.newL (rs.append rt) q⟩))
  mo := by
    intro x y h Q Q' hq q
    unfold dAdd at *
    split at q
    · exact hq _ _ q
    · exact ⟨q.1, hq _ _ q.2⟩
    · exact ⟨q.1, hq _ _ q.2⟩
    · obtain ⟨xs, ys, e1, e2, l, q⟩ := q
      exact ⟨xs, ys, e1, e2, l, newL_mo hq q⟩
theorem dSub_ok {K : PySem.W.Frag} : OpD K (rI0 fun i j => .int (i - j)) dSub where
  to := by
    intro F h H x y vx vy Q S rx ry q
    unfold dSub at q
    split at q
    · cases rx; cases ry; exact ⟨_, _, rfl, rfl, q.at S (.int _)⟩
    · exact q.elim
  mo := by
    intro x y h Q Q' hq q
    unfold dSub at *
    split at q
    · exact hq _ _ q
    · exact q.elim
def rDivD : R2 := fun x y H Q => rI CDiv (fun i j => .int (i / j)) x y H Q ∨ rI CDivW (fun i j => .int (i / j)) x y H Q
theorem op_divD : OpR X (binaryOp .FloorDiv) rDivD := OpR.or op_fdiv op_fdivW
theorem dDiv_ok {K : PySem.W.Frag} : OpD K rDivD dDiv where
  to := by
    intro F h H x y vx vy Q S rx ry q
    unfold dDiv at q
    split at q
    · cases rx; cases ry
      obtain ⟨⟨c0, c⟩, q⟩ := q
      rcases c with c | c
      · exact .inl ⟨_, _, rfl, rfl, ⟨c0, c⟩, q.at S (.int _)⟩
      · exact .inr ⟨_, _, rfl, rfl, ⟨c0, c⟩, q.at S (.int _)⟩
    · exact q.elim
  mo := by
    intro x y h Q Q' hq q
    unfold dDiv at *
    split at q
    · exact ⟨q.1, hq _ _ q.2⟩
    · exact q.elim
theorem dMod_ok {K : PySem.W.Frag} : OpD K (rI (fun _ j => 0 < j) fun i j => .int (i % j)) dMod where
  to := by
    intro F h H x y vx vy Q S rx ry q
    unfold dMod at q
    split at q
    · cases rx; cases ry; exact ⟨_, _, rfl, rfl, q.1, q.2.at S (.int _)⟩
    · exact q.elim
  mo := by
    intro x y h Q Q' hq q
    unfold dMod at *
    split at q
    · exact ⟨q.1, hq _ _ q.2⟩
    · exact q.elim
theorem dPow_ok {K : PySem.W.Frag} : OpD K (rI CPow fun i j => .int (i ^ j.toNat)) dPow where
  to := by
    intro F h H x y vx vy Q S rx ry q
    unfold dPow at q
    split at q
    · cases rx; cases ry; exact ⟨_, _, rfl, rfl, q.1, q.2.at S (.int _)⟩
    · exact q.elim
  mo := by
    intro x y h Q Q' hq q
    unfold dPow at *
    split at q
    · exact ⟨q.1, hq _ _ q.2⟩
    · exact q.elim
theorem dCmpI_ok {K : PySem.W.Frag} {f : Int → Int → Bool} : OpD K (rI0 fun i j => .bl (f i j)) (dCmpI f) where
  to := by
    intro F h H x y vx vy Q S rx ry q
    unfold dCmpI at q
    split at q
    · cases rx; cases ry; exact ⟨_, _, rfl, rfl, q.at S (.bl _)⟩
    · exact q.elim
  mo := by
    intro x y h Q Q' hq q
    unfold dCmpI at *
    split at q
    · exact hq _ _ q
    · exact q.elim
def rEqF (K : PySem.W.Frag) (f : Bool → Bool) : R2 := fun x y H Q => (scal x y = true ∧ Q (.bl (f (decide (x = y)))) H) ∨ ∃ d e, Dp K H x d ∧ Dp K H y e ∧ SeqAt.shaped d = true ∧ SeqAt.shaped e = true ∧ Q (.bl (f (PyData.eqv d e))) H
theorem op_eqF (hu : X.A.units + 64 < cLine) : OpR X (compareOp .Eq) (rEqF X.K fun b => b) := OpR.or op_eq (op_eqD hu)
theorem op_neF (hu : X.A.units + 64 < cLine) : OpR X (compareOp .NotEq) (rEqF X.K fun b => !b) := OpR.or op_ne (op_neD hu)
theorem dec_int {i j : Int} : decide (V.int i = V.int j) = decide (i = j) := by simp
theorem dec_str {i j : Str} : decide (V.str i = V.str j) = decide (i = j) := by simp
theorem dec_bl {i j : Bool} : decide (V.bl i = V.bl j) = decide (i = j) := by simp
theorem dEq_ok {K : PySem.W.Frag} {f : Bool → Bool} : OpD K (rEqF K f) (dEq f) where
  to := by
    intro F h H x y vx vy Q S rx ry q
    unfold dEq at q
    split at q
    · cases rx; cases ry; exact .inl ⟨rfl, by rw [dec_int]; exact q.at S (.bl _)⟩
    · cases rx; cases ry; exact .inl ⟨rfl, by rw [dec_str]; exact q.at S (.bl _)⟩
    · cases rx; cases ry; exact .inl ⟨rfl, by rw [dec_bl]; exact q.at S (.bl _)⟩
    · obtain ⟨c1, c2, c3, c4, q⟩ := q
      exact .inr ⟨_, _, S.curDp rx c1, S.curDp ry c2, c3, c4, q.at S (.bl _)⟩
  mo := by
    intro x y h Q Q' hq q
    unfold dEq at *
    split at q
    · exact hq _ _ q
    · exact hq _ _ q
    · exact hq _ _ q
    · obtain ⟨c1, c2, c3, c4, q⟩ := q
      exact ⟨c1, c2, c3, c4, hq _ _ q⟩
def rIsF (f : Bool → Bool) : R2 := fun x y H Q => (y = .non ∧ Q (.bl (f (decide (x = .non)))) H) ∨ ∃ a b : Bool, x = .bl a ∧ y = .bl b ∧ Q (.bl (f (decide (a = b)))) H
theorem op_isF : OpR X (compareOp .Is) (rIsF fun b => b) := OpR.or op_isN op_isBl
theorem op_notF : OpR X (compareOp .IsNot) (rIsF fun b => !b) := OpR.or op_notN op_notBl
theorem Rep.nonv {K : PySem.W.Frag} {F : Hp} {d : D} {v : V} (r : Rep K F d v) (h : d ≠ .non) : v ≠ .non := by
  cases r <;> first | exact absurd rfl h | (intro z; cases z)
theorem dIsN_ok {K : PySem.W.Frag} {f : Bool → Bool} : OpD K (rIsF f) (dIsN f) where
  to := by
    intro F h H x y vx vy Q S rx ry q
    unfold dIsN at q
    split at q
    · cases rx; cases ry; exact .inl ⟨rfl, q.at S (.bl _)⟩
    · cases rx; cases ry; exact .inr ⟨_, _, rfl, rfl, q.at S (.bl _)⟩
    · rename_i hx _
      cases ry
      have n : vx ≠ .non := rx.nonv (by intro e; subst e; simp_all)
      exact .inl ⟨rfl, by rw [decide_eq_false n]; exact q.at S (.bl _)⟩
    · exact q.elim
  mo := by
    intro x y h Q Q' hq q
    unfold dIsN at *
    split at q
    · exact hq _ _ q
    · exact hq _ _ q
    · exact hq _ _ q
    · exact q.elim
end
end DL
namespace DL
open PySem PySem.Spec L2

/-! ### expressions over data -/
def wC (d : D) : WE := fun _ h Q _ => Q d h
def wVar (i : Nat) : WE := fun ρ h Q _ => match ρ[i]? with
  | some (some d) => Q d h
  | _ => False
def wOp (f : D → D → AH → KD → Prop) (a b : WE) : WE := fun ρ h Q X => a ρ h (fun x h1 => b ρ h1 (fun y h2 => f x y h2 Q) X) X
def wNeg (a : WE) : WE := fun ρ h Q X => a ρ h (fun x h1 => match x with
  | .int i => Q (.int (-i)) h1
  | _ => False) X
def wChain (f g : D → D → AH → KD → Prop) (a b c : WE) : WE := fun ρ h Q X => a ρ h (fun x h1 => b ρ h1 (fun y h2 => f x y h2 fun z h3 => match z with
  | .bl k => if k = true then c ρ h3 (fun u h4 => g y u h4 Q) X else Q (.bl false) h3
  | _ => False) X) X
def wTest (a : WE) : WT := fun ρ h Q X => a ρ h (fun x h1 => match x with
  | .bl b => Q b h1
  | _ => False) X
def truD (h : AH) (x : D) : Option Bool := match cur h x with
  | .non => some false
  | .bl b => some b
  | .int i => some (i != 0)
  | .tup xs => some (!xs.isEmpty)
  | .tpl xs => some (!xs.isEmpty)
  | .lst xs => some (!xs.isEmpty)
  | .dK xs => some (!xs.isEmpty)
  | _ => none
def wTruth (a : WE) : WT := fun ρ h Q X => a ρ h (fun x h1 => ∃ k, truD h1 x = some k ∧ Q k h1) X
def wAnd (a b : WT) : WT := fun ρ h Q X => a ρ h (fun c h1 => if c = true then b ρ h1 Q X else Q false h1) X
def wOr (a b : WT) : WT := fun ρ h Q X => a ρ h (fun c h1 => if c = true then Q true h1 else b ρ h1 Q X) X
def wNot (a : WT) : WT := fun ρ h Q X => a ρ h (fun c h1 => Q (!c) h1) X
def wAndV (a b : WE) : WE := fun ρ h Q X => a ρ h (fun x h1 => match x with
  | .bl c => if c = true then b ρ h1 Q X else Q (.bl false) h1
  | _ => False) X
def wOrV (a b : WE) : WE := fun ρ h Q X => a ρ h (fun x h1 => match x with
  | .bl c => if c = true then Q (.bl true) h1 else b ρ h1 Q X
  | _ => False) X
def wNotV (a : WE) : WE := fun ρ h Q X => a ρ h (fun x h1 => match x with
  | .bl c => Q (.bl (!c)) h1
  | _ => False) X
def wIf (t : WT) (a b : WE) : WE := fun ρ h Q X => t ρ h (fun c h1 => if c = true then a ρ h1 Q X else b ρ h1 Q X) X
def wNil : WA := fun _ h Q _ => Q [] h
def wCons (a : WE) (r : WA) : WA := fun ρ h Q X => a ρ h (fun x h1 => r ρ h1 (fun xs h2 => Q (x :: xs) h2) X) X
def wTup (a : WA) : WE := fun ρ h Q X => a ρ h (fun xs h1 => xs.length ≤ sizeLine ∧ Q (.tup xs) h1) X
def wLst (m : Bool) (a : WA) : WE := fun ρ h Q X => a ρ h (fun xs h1 => xs.length ≤ sizeLine ∧ newL m xs h1 Q) X
def wCallP (S : FSpec) (n : Nat) (g : List D → List D → List D) (wa : WA) : WE := fun ρ h Q X => wa ρ h (fun ds h1 => ds.length = n ∧ S (g ds []) h1 Q X) X
/-- a built-in -/
def wB (r : List D → AH → KD → Prop) (a : WA) : WE := fun ρ h Q X => a ρ h (fun xs h1 => r xs h1 Q) X

section
variable {X : Cx} {E : XK} {k : Nat} {a b e : Expr} {es : List Expr} {wa wb wc : WE} {ta tb : WT} {wl : WA} {pos : Pos}

theorem ae_c {v : V} {d : D} (h : PE X e (tC v)) (r : ∀ F, Rep X.K F d v) : AE X E e (wC d) := by
  refine ⟨PE.imp h fun σ H Q ⟨F, ρ, g, S, R, q⟩ => ?_, fun ρ h Q Q' X X' hq _ q => hq _ _ q⟩
  exact LQ.at q S (r F)
theorem ae_int {i : Int} {j pos} : AE X E (.Constant (.int i) j pos) (wC (.int i)) := ae_c pe_int fun _ => .int i
theorem ae_bl {i : Bool} {j pos} : AE X E (.Constant (.bool i) j pos) (wC (.bl i)) := ae_c pe_bl fun _ => .bl i
theorem ae_non {j pos} : AE X E (.Constant .none j pos) (wC .non) := ae_c pe_non fun _ => .non
theorem ae_str {i : Str} {j pos} : AE X E (.Constant (.str i) j pos) (wC (.str i)) := ae_c pe_str fun _ => .str i
/-- what a name of the module holds -/
structure Cst (K : PySem.W.Frag) (mg : Str → Option Value) (x : Str) (d : D) : Prop where
  ex : ∃ v u, mg x = some u ∧ RelV v u ∧ ∀ F, Rep K F d v
theorem ae_glob {x : Str} {d : D} (c : Cst X.K X.mg x d) (hg : Gl X x := by rfl) (hd : (x == ("__debug__" : Str)) = false := by decide) : AE X E (.Name x pos) (wC d) := by
  obtain ⟨v, u, m, r, q⟩ := c.ex
  exact ae_c (pe_glob hg m r hd) q
theorem ae_ty {x : Str} {n : String} (hm : X.mg x = none) (hv : bootBuiltins x = some (.type n)) (hg : Gl X x := by rfl) (hn : x ≠ "__name__" := by decide) (hd : (x == ("__debug__" : Str)) = false := by decide) : AE X E (.Name x pos) (wC (.ty n)) :=
  ae_c (pe_bltn hg hm hv (v := .ty n) rfl hn hd) fun _ => .ty n
theorem ae_var (i : Nat) {x : Str} (hN : X.N[i]? = some x := by rfl) (hv : Vis X.env.scope x := by first | exact Or.inl rfl | exact Or.inr (Or.inl rfl) | exact Or.inr (Or.inr rfl))
    (hd : (x == ("__debug__" : Str)) = false := by decide) (hcd : (x == ("__classdict__" : Str)) = false := by decide) : AE X E (.Name x pos) (wVar i) := by
  refine ⟨PE.imp (pe_var hN hv hd hcd) fun σ H Q ⟨F, ρ, g, S, R, q⟩ => ?_, fun ρ h Q Q' X X' hq _ q => ?_⟩
  · unfold wVar at q
    split at q
    · rename_i d e
      obtain ⟨v, h1, h2⟩ := R.2 i d e
      exact ⟨v, h1, LQ.at q S h2⟩
    · exact q.elim
  · unfold wVar at *
    split at q
    · exact hq _ _ q
    · exact q.elim
/-- two expressions, then an operator of values -/
theorem two {r : R2} {f : D → D → AH → KD → Prop} (ok : OpD X.K r f) (ha : AE X E a wa) (hb : AE X E b wb) {σ : L2.St} {H : Hp} {Q : VK} (h : tE X.K E (wOp f wa wb) σ H Q) : tOp r (tE X.K E wa) (tE X.K E wb) σ H Q := by
  obtain ⟨F, ρ, g, S, R, q⟩ := h
  refine ⟨F, ρ, g, S, R, ha.mo _ _ _ _ _ _ (fun x h1 hx => ?_) (fun _ _ z => z) q⟩
  intro F1 H1 vx e1 S1 rx
  refine ⟨F1, ρ, h1, S1, R.ext e1, hb.mo _ _ _ _ _ _ (fun y h2 hf => ?_) (fun _ _ z => LX.ext e1 z) hx⟩
  intro F2 H2 vy e2 S2 ry
  exact ok.to S2 (rx.ext e2) ry (ok.mo (fun _ _ z => LQ.ext (e1.trans e2) z) hf)
theorem mo_op {f : D → D → AH → KD → Prop} (mo : ∀ {x y h} {Q Q' : KD}, (∀ d h, Q d h → Q' d h) → f x y h Q → f x y h Q') (ma : MoE wa) (mb : MoE wb) : MoE (wOp f wa wb) := fun ρ h Q Q' X X' hq hx q =>
  ma _ _ _ _ _ _ (fun x h1 q1 => mb _ _ _ _ _ _ (fun y h2 q2 => mo hq q2) hx q1) hx q
theorem ae_bin {op : Operator} {r : R2} {f : D → D → AH → KD → Prop} (ok : OpD X.K r f) (ho : OpR X (binaryOp op) r) (ha : AE X E a wa) (hb : AE X E b wb) : AE X E (.BinOp a op b pos) (wOp f wa wb) :=
  ⟨PE.imp (pe_op ho ha.run hb.run) fun σ H Q h => two ok ha hb h, mo_op ok.mo ha.mo hb.mo⟩
theorem ae_add (m : Bool) (ha : AE X E a wa) (hb : AE X E b wb) : AE X E (.BinOp a .Add b pos) (wOp (dAdd m) wa wb) := ae_bin dAdd_ok op_addD ha hb
theorem ae_sub (ha : AE X E a wa) (hb : AE X E b wb) : AE X E (.BinOp a .Sub b pos) (wOp dSub wa wb) := ae_bin dSub_ok op_sub ha hb
theorem ae_mul (m : Bool) (ha : AE X E a wa) (hb : AE X E b wb) : AE X E (.BinOp a .Mult b pos) (wOp (dMul m) wa wb) := ae_bin (r := rMul X.K) dMul_ok op_mulD ha hb
theorem ae_div (ha : AE X E a wa) (hb : AE X E b wb) : AE X E (.BinOp a .FloorDiv b pos) (wOp dDiv wa wb) := ae_bin dDiv_ok op_divD ha hb
theorem ae_mod (ha : AE X E a wa) (hb : AE X E b wb) : AE X E (.BinOp a .Mod b pos) (wOp dMod wa wb) := ae_bin dMod_ok op_mod ha hb
theorem ae_pow (ha : AE X E a wa) (hb : AE X E b wb) : AE X E (.BinOp a .Pow b pos) (wOp dPow wa wb) := ae_bin dPow_ok op_pow ha hb
theorem ae_neg (ha : AE X E a wa) : AE X E (.UnaryOp .USub a pos) (wNeg wa) := by
  refine ⟨PE.imp (pe_un un_neg ha.run) fun σ H Q ⟨F, ρ, g, S, R, q⟩ => ?_, fun ρ h Q Q' X X' hq hx q => ?_⟩
  · refine ⟨F, ρ, g, S, R, ha.mo _ _ _ _ _ _ (fun x h1 hx => ?_) (fun _ _ z => z) q⟩
    intro F1 H1 vx e1 S1 rx
    split at hx
    · cases rx; exact ⟨_, rfl, hx F1 H1 _ e1 S1 (.int _)⟩
    · exact hx.elim
  · refine ha.mo _ _ _ _ _ _ (fun x h1 q1 => ?_) hx q
    split at q1
    · exact hq _ _ q1
    · exact q1.elim
theorem ae_cmp {op : CmpOp} {r : R2} {f : D → D → AH → KD → Prop} (ok : OpD X.K r f) (ho : OpR X (compareOp op) r) (ha : AE X E a wa) (hb : AE X E b wb) (hm : behindInMarks op b = false := by first | exact nobehind _ (by decide) (by decide) | rfl) : AE X E (.Compare a [op] [b] pos) (wOp f wa wb) :=
  ⟨PE.imp (pe_cmpR ho ha.run hb.run hm) fun σ H Q h => two ok ha hb h, mo_op ok.mo ha.mo hb.mo⟩
theorem ae_lt (ha : AE X E a wa) (hb : AE X E b wb) : AE X E (.Compare a [.Lt] [b] pos) (wOp (dCmpI fun i j => decide (i < j)) wa wb) := ae_cmp dCmpI_ok op_lt ha hb
theorem ae_le (ha : AE X E a wa) (hb : AE X E b wb) : AE X E (.Compare a [.LtE] [b] pos) (wOp (dCmpI fun i j => decide (i ≤ j)) wa wb) := ae_cmp dCmpI_ok op_le ha hb
theorem ae_gt (ha : AE X E a wa) (hb : AE X E b wb) : AE X E (.Compare a [.Gt] [b] pos) (wOp (dCmpI fun i j => decide (j < i)) wa wb) := ae_cmp dCmpI_ok op_gt ha hb
theorem ae_ge (ha : AE X E a wa) (hb : AE X E b wb) : AE X E (.Compare a [.GtE] [b] pos) (wOp (dCmpI fun i j => decide (j ≤ i)) wa wb) := ae_cmp dCmpI_ok op_ge ha hb
theorem ae_eq (c : Cg gz X E k) (ha : AE X E a wa) (hb : AE X E b wb) : AE X E (.Compare a [.Eq] [b] pos) (wOp (dEq fun b => b) wa wb) := ae_cmp dEq_ok (op_eqF c.room.units) ha hb
theorem ae_ne (c : Cg gz X E k) (ha : AE X E a wa) (hb : AE X E b wb) : AE X E (.Compare a [.NotEq] [b] pos) (wOp (dEq fun b => !b) wa wb) := ae_cmp dEq_ok (op_neF c.room.units) ha hb
theorem ae_is (ha : AE X E a wa) (hb : AE X E b wb) : AE X E (.Compare a [.Is] [b] pos) (wOp (dIsN fun b => b) wa wb) := ae_cmp dIsN_ok op_isF ha hb
theorem ae_isnot (ha : AE X E a wa) (hb : AE X E b wb) : AE X E (.Compare a [.IsNot] [b] pos) (wOp (dIsN fun b => !b) wa wb) := ae_cmp dIsN_ok op_notF ha hb
theorem mo_chain {f g : D → D → AH → KD → Prop} (mf : ∀ {x y h} {Q Q' : KD}, (∀ d h, Q d h → Q' d h) → f x y h Q → f x y h Q') (mg : ∀ {x y h} {Q Q' : KD}, (∀ d h, Q d h → Q' d h) → g x y h Q → g x y h Q') (ma : MoE wa) (mb : MoE wb) (mc : MoE wc) : MoE (wChain f g wa wb wc) := fun ρ h Q Q' X X' hq hx q =>
  ma _ _ _ _ _ _ (fun x h1 q1 => mb _ _ _ _ _ _ (fun y h2 q2 => mf (fun z h3 q3 => by
    split at q3
    · split at q3
      · rename_i c; simp only [c, if_true]; exact mc _ _ _ _ _ _ (fun u h4 q4 => mg hq q4) hx q3
      · rename_i c; simp only [if_neg c]; exact hq _ _ q3
    · exact q3.elim) q2) hx q1) hx q
theorem ae_chain {op op' : CmpOp} {r r' : R2} {f g : D → D → AH → KD → Prop} {c : Expr} (ok : OpD X.K r f) (ok' : OpD X.K r' g) (ho : OpR X (compareOp op) r) (ho' : OpR X (compareOp op') r') (ha : AE X E a wa) (hb : AE X E b wb) (hc : AE X E c wc)
    (hp : PE X (.Compare a [op, op'] [b, c] pos) (tChain r r' (tE X.K E wa) (tE X.K E wb) (tE X.K E wc))) : AE X E (.Compare a [op, op'] [b, c] pos) (wChain f g wa wb wc) := by
  refine ⟨PE.imp hp fun σ H Q ⟨F, ρ, g0, S, R, q⟩ => ?_, mo_chain ok.mo ok'.mo ha.mo hb.mo hc.mo⟩
  refine ⟨F, ρ, g0, S, R, ha.mo _ _ _ _ _ _ (fun x h1 hx => ?_) (fun _ _ z => z) q⟩
  intro F1 H1 vx e1 S1 rx
  refine ⟨F1, ρ, h1, S1, R.ext e1, hb.mo _ _ _ _ _ _ (fun y h2 hf => ?_) (fun _ _ z => LX.ext e1 z) hx⟩
  intro F2 H2 vy e2 S2 ry
  refine ok.to S2 (rx.ext e2) ry (ok.mo (fun z h3 hz => ?_) hf)
  intro F3 H3 v3 e3 S3 r3
  split at hz
  · rename_i kk
    cases r3
    refine ⟨kk, rfl, ?_⟩
    split at hz
    · rename_i ck
      rw [if_pos ck]
      refine ⟨F3, ρ, h3, S3, R.ext (e1.trans (e2.trans e3)), hc.mo _ _ _ _ _ _ (fun u h4 hg => ?_) (fun _ _ z => LX.ext (e1.trans (e2.trans e3)) z) hz⟩
      intro F4 H4 vu e4 S4 ru
      exact ok'.to S4 (ry.ext (e3.trans e4)) ru (ok'.mo (fun _ _ z => LQ.ext (e1.trans (e2.trans (e3.trans e4))) z) hg)
    · rename_i ck
      rw [if_neg ck]
      exact hz F3 H3 _ (e1.trans (e2.trans e3)) S3 (.bl _)
  · exact hz.elim

/-! ### tests -/
theorem at_val (ha : AE X E a wa) (he : ∀ whole, isTrue a X.env whole = (do let v ← whole; standAt a.pos; holding [v] (truthy v)) := by intro _; rfl) : AT X E a (wTest wa) := by
  refine ⟨PT.imp (pt_val ha.run he) fun σ H Q ⟨F, ρ, g, S, R, q⟩ => ?_, fun ρ h Q Q' X X' hq hx q => ?_⟩
  · refine ⟨F, ρ, g, S, R, ha.mo _ _ _ _ _ _ (fun x h1 hx => ?_) (fun _ _ z => z) q⟩
    intro F1 H1 vx e1 S1 rx
    split at hx
    · cases rx; exact ⟨_, rfl, hx F1 H1 e1 S1⟩
    · exact hx.elim
  · refine ha.mo _ _ _ _ _ _ (fun x h1 q1 => ?_) hx q
    split at q1
    · exact hq _ _ q1
    · exact q1.elim
theorem at_cmp {op : CmpOp} {r : R2} {f : D → D → AH → KD → Prop} (ok : OpD X.K r f) (ho : OpR X (compareOp op) r) (ha : AE X E a wa) (hb : AE X E b wb) (hm : behindInMarks op b = false := by first | exact nobehind _ (by decide) (by decide) | rfl) : AT X E (.Compare a [op] [b] pos) (wTest (wOp f wa wb)) := by
  have M : MoE (wOp f wa wb) := mo_op ok.mo ha.mo hb.mo
  refine ⟨PT.imp (pt_cmpR ho ha.run hb.run hm) fun σ H Q ⟨F, ρ, g, S, R, q⟩ => ?_, fun ρ h Q Q' X X' hq hx q => ?_⟩
  · refine two ok ha hb ⟨F, ρ, g, S, R, M _ _ _ _ _ _ (fun x h1 hx => ?_) (fun _ _ z => z) q⟩
    intro F1 H1 vx e1 S1 rx
    split at hx
    · cases rx; exact ⟨_, rfl, hx F1 H1 e1 S1⟩
    · exact hx.elim
  · refine M _ _ _ _ _ _ (fun x h1 q1 => ?_) hx q
    split at q1
    · exact hq _ _ q1
    · exact q1.elim
theorem at_lt (ha : AE X E a wa) (hb : AE X E b wb) : AT X E (.Compare a [.Lt] [b] pos) (wTest (wOp (dCmpI fun i j => decide (i < j)) wa wb)) := at_cmp dCmpI_ok op_lt ha hb
theorem at_le (ha : AE X E a wa) (hb : AE X E b wb) : AT X E (.Compare a [.LtE] [b] pos) (wTest (wOp (dCmpI fun i j => decide (i ≤ j)) wa wb)) := at_cmp dCmpI_ok op_le ha hb
theorem at_gt (ha : AE X E a wa) (hb : AE X E b wb) : AT X E (.Compare a [.Gt] [b] pos) (wTest (wOp (dCmpI fun i j => decide (j < i)) wa wb)) := at_cmp dCmpI_ok op_gt ha hb
theorem at_ge (ha : AE X E a wa) (hb : AE X E b wb) : AT X E (.Compare a [.GtE] [b] pos) (wTest (wOp (dCmpI fun i j => decide (j ≤ i)) wa wb)) := at_cmp dCmpI_ok op_ge ha hb
theorem at_eq (c : Cg gz X E k) (ha : AE X E a wa) (hb : AE X E b wb) : AT X E (.Compare a [.Eq] [b] pos) (wTest (wOp (dEq fun b => b) wa wb)) := at_cmp dEq_ok (op_eqF c.room.units) ha hb
theorem at_ne (c : Cg gz X E k) (ha : AE X E a wa) (hb : AE X E b wb) : AT X E (.Compare a [.NotEq] [b] pos) (wTest (wOp (dEq fun b => !b) wa wb)) := at_cmp dEq_ok (op_neF c.room.units) ha hb
theorem at_is (ha : AE X E a wa) (hb : AE X E b wb) : AT X E (.Compare a [.Is] [b] pos) (wTest (wOp (dIsN fun b => b) wa wb)) := at_cmp dIsN_ok op_isF ha hb
theorem at_isnot (ha : AE X E a wa) (hb : AE X E b wb) : AT X E (.Compare a [.IsNot] [b] pos) (wTest (wOp (dIsN fun b => !b) wa wb)) := at_cmp dIsN_ok op_notF ha hb
theorem Sim.truD {K : PySem.W.Frag} {F : Hp} {h : AH} {H : Hp} {d : D} {v : V} {c : Bool} (S : Sim K F h H) (r : Rep K F d v) (q : truD h d = some c) : TruV K v H c := by
  cases r with
  | ref a =>
    cases e : h a with
    | none => simp [DL.truD, cur, e] at q
    | some o =>
      obtain ⟨_, u, hu, ro⟩ := S.ob _ _ e
      cases o with
      | lst xs =>
        obtain ⟨vs, rfl, rs⟩ := ro
        simp only [DL.truD, cur, e, Option.some.injEq] at q
        refine .inl ⟨vs, .of hu, ?_⟩
        rw [← q]; cases rs <;> rfl
      | dK xs =>
        obtain ⟨vs, rfl, rs⟩ := ro
        simp only [DL.truD, cur, e, Option.some.injEq] at q
        refine .inr (.inr ⟨vs, hu, ?_⟩)
        rw [← q]; cases rs <;> rfl
      | dT _ => simp [DL.truD, cur, e] at q
      | ins _ _ => simp [DL.truD, cur, e] at q
      | lck _ => simp [DL.truD, cur, e] at q
  | non => simp only [DL.truD, cur, Option.some.injEq] at q; exact q.symm
  | bl b => simp only [DL.truD, cur, Option.some.injEq] at q; exact q.symm
  | int i => simp only [DL.truD, cur, Option.some.injEq] at q; exact q.symm
  | str s => simp [DL.truD, cur] at q
  | ty n => simp [DL.truD, cur] at q
  | lk _ _ => simp [DL.truD, cur] at q
  | ob _ _ => simp [DL.truD, cur] at q
  | @tup a xs vs h r =>
    simp only [DL.truD, cur, Option.some.injEq] at q
    refine .inr (.inl ⟨vs, sqt_of S.fz h, ?_⟩)
    rw [← q]; cases r <;> rfl
  | @tpl a ob xs vs h hd r =>
    simp only [DL.truD, cur, Option.some.injEq] at q
    refine .inr (.inl ⟨vs, sqt_of S.fz (.inl (.inr ⟨_, h⟩)), ?_⟩)
    rw [← q]; cases r <;> rfl
  | @lst a xs vs h r =>
    simp only [DL.truD, cur, Option.some.injEq] at q
    refine .inl ⟨vs, .of (S.fz _ _ h), ?_⟩
    rw [← q]; cases r <;> rfl
  | @dK a xs vs h r =>
    simp only [DL.truD, cur, Option.some.injEq] at q
    refine .inr (.inr ⟨vs, S.fz _ _ h, ?_⟩)
    rw [← q]; cases r <;> rfl
  | dT _ _ => simp [DL.truD, cur] at q
theorem at_truth (ha : AE X E a wa) (he : ∀ whole, isTrue a X.env whole = (do let v ← whole; standAt a.pos; holding [v] (truthy v)) := by intro _; rfl) : AT X E a (wTruth wa) := by
  refine ⟨PT.imp (pt_truth ha.run he) fun σ H Q ⟨F, ρ, g, S, R, q⟩ => ?_, fun ρ h Q Q' X X' hq hx q => ?_⟩
  · refine ⟨F, ρ, g, S, R, ha.mo _ _ _ _ _ _ (fun x h1 hx => ?_) (fun _ _ z => z) q⟩
    intro F1 H1 vx e1 S1 rx
    obtain ⟨c, hc, hx⟩ := hx
    exact ⟨c, S1.truD rx hc, hx F1 H1 e1 S1⟩
  · exact ha.mo _ _ _ _ _ _ (fun x h1 ⟨c, hc, q1⟩ => ⟨c, hc, hq _ _ q1⟩) hx q
theorem mo_and {a b : WT} (ma : MoT a) (mb : MoT b) : MoT (wAnd a b) := fun ρ h Q Q' X X' hq hx q => ma _ _ _ _ _ _ (fun c h1 q1 => by
  split at q1
  · rename_i e; rw [if_pos e]; exact mb _ _ _ _ _ _ hq hx q1
  · rename_i e; rw [if_neg e]; exact hq _ _ q1) hx q
theorem mo_or {a b : WT} (ma : MoT a) (mb : MoT b) : MoT (wOr a b) := fun ρ h Q Q' X X' hq hx q => ma _ _ _ _ _ _ (fun c h1 q1 => by
  split at q1
  · rename_i e; rw [if_pos e]; exact hq _ _ q1
  · rename_i e; rw [if_neg e]; exact mb _ _ _ _ _ _ hq hx q1) hx q
theorem AW.at (h : AW X E a ta) : AT X E a ta := ⟨h.run.pt, h.mo⟩
theorem aw_and1 (ha : AT X E a ta) : AW X E (.BoolOp .And [a] pos) ta := ⟨pw_and1 ha.run, ha.mo⟩
theorem aw_or1 (ha : AT X E a ta) : AW X E (.BoolOp .Or [a] pos) ta := ⟨pw_or1 ha.run, ha.mo⟩
theorem aw_and {rest : List Expr} (ha : AT X E a ta) (hb : AW X E (.BoolOp .And (b :: rest) pos) tb) : AW X E (.BoolOp .And (a :: b :: rest) pos) (wAnd ta tb) := by
  refine ⟨PW.imp (pw_and ha.run hb.run) fun σ H Q ⟨F, ρ, g, S, R, q⟩ => ?_, mo_and ha.mo hb.mo⟩
  refine ⟨F, ρ, g, S, R, ha.mo _ _ _ _ _ _ (fun x h1 hx => ?_) (fun _ _ z => z) q⟩
  intro F1 H1 e1 S1
  split at hx
  · rename_i e; rw [if_pos e]
    exact ⟨F1, ρ, h1, S1, R.ext e1, hb.mo _ _ _ _ _ _ (fun _ _ z => LB.ext e1 z) (fun _ _ z => LX.ext e1 z) hx⟩
  · rename_i e; rw [if_neg e]
    exact hx F1 H1 e1 S1
theorem aw_or {rest : List Expr} (ha : AT X E a ta) (hb : AW X E (.BoolOp .Or (b :: rest) pos) tb) : AW X E (.BoolOp .Or (a :: b :: rest) pos) (wOr ta tb) := by
  refine ⟨PW.imp (pw_or ha.run hb.run) fun σ H Q ⟨F, ρ, g, S, R, q⟩ => ?_, mo_or ha.mo hb.mo⟩
  refine ⟨F, ρ, g, S, R, ha.mo _ _ _ _ _ _ (fun x h1 hx => ?_) (fun _ _ z => z) q⟩
  intro F1 H1 e1 S1
  split at hx
  · rename_i e; rw [if_pos e]
    exact hx F1 H1 e1 S1
  · rename_i e; rw [if_neg e]
    exact ⟨F1, ρ, h1, S1, R.ext e1, hb.mo _ _ _ _ _ _ (fun _ _ z => LB.ext e1 z) (fun _ _ z => LX.ext e1 z) hx⟩
theorem at_not (ha : AT X E a ta) : AT X E (.UnaryOp .Not a pos) (wNot ta) := by
  refine ⟨PT.imp (pt_not ha.run) fun σ H Q ⟨F, ρ, g, S, R, q⟩ => ?_, fun ρ h Q Q' X X' hq hx q => ha.mo _ _ _ _ _ _ (fun c h1 q1 => hq _ _ q1) hx q⟩
  exact ⟨F, ρ, g, S, R, ha.mo _ _ _ _ _ _ (fun x h1 hx F1 H1 e1 S1 => hx F1 H1 e1 S1) (fun _ _ z => z) q⟩
/-! ### and, or, not as values -/
theorem ae_one {op} (ha : AE X E a wa) : AE X E (.BoolOp op [a] pos) wa := ⟨pe_one ha.run, ha.mo⟩
theorem ae_and {rest : List Expr} (ha : AE X E a wa) (hb : AE X E (.BoolOp .And (b :: rest) pos) wb) : AE X E (.BoolOp .And (a :: b :: rest) pos) (wAndV wa wb) := by
  refine ⟨PE.imp (pe_and ha.run hb.run) fun σ H Q ⟨F, ρ, g, S, R, q⟩ => ?_, fun ρ h Q Q' X X' hq hx q => ?_⟩
  · refine ⟨F, ρ, g, S, R, ha.mo _ _ _ _ _ _ (fun x h1 hx => ?_) (fun _ _ z => z) q⟩
    intro F1 H1 vx e1 S1 rx
    split at hx
    · cases rx
      refine ⟨_, rfl, ?_⟩
      split at hx
      · rename_i e; rw [if_pos e]
        exact ⟨F1, ρ, h1, S1, R.ext e1, hb.mo _ _ _ _ _ _ (fun _ _ z => LQ.ext e1 z) (fun _ _ z => LX.ext e1 z) hx⟩
      · rename_i e; rw [if_neg e]
        exact hx F1 H1 _ e1 S1 (.bl _)
    · exact hx.elim
  · refine ha.mo _ _ _ _ _ _ (fun x h1 q1 => ?_) hx q
    split at q1
    · split at q1
      · rename_i e; simp only [if_pos e]; exact hb.mo _ _ _ _ _ _ hq hx q1
      · rename_i e; simp only [if_neg e]; exact hq _ _ q1
    · exact q1.elim
theorem ae_or {rest : List Expr} (ha : AE X E a wa) (hb : AE X E (.BoolOp .Or (b :: rest) pos) wb) : AE X E (.BoolOp .Or (a :: b :: rest) pos) (wOrV wa wb) := by
  refine ⟨PE.imp (pe_or ha.run hb.run) fun σ H Q ⟨F, ρ, g, S, R, q⟩ => ?_, fun ρ h Q Q' X X' hq hx q => ?_⟩
  · refine ⟨F, ρ, g, S, R, ha.mo _ _ _ _ _ _ (fun x h1 hx => ?_) (fun _ _ z => z) q⟩
    intro F1 H1 vx e1 S1 rx
    split at hx
    · cases rx
      refine ⟨_, rfl, ?_⟩
      split at hx
      · rename_i e; rw [if_pos e]
        exact hx F1 H1 _ e1 S1 (.bl _)
      · rename_i e; rw [if_neg e]
        exact ⟨F1, ρ, h1, S1, R.ext e1, hb.mo _ _ _ _ _ _ (fun _ _ z => LQ.ext e1 z) (fun _ _ z => LX.ext e1 z) hx⟩
    · exact hx.elim
  · refine ha.mo _ _ _ _ _ _ (fun x h1 q1 => ?_) hx q
    split at q1
    · split at q1
      · rename_i e; simp only [if_pos e]; exact hq _ _ q1
      · rename_i e; simp only [if_neg e]; exact hb.mo _ _ _ _ _ _ hq hx q1
    · exact q1.elim
theorem ae_not (ha : AE X E a wa) : AE X E (.UnaryOp .Not a pos) (wNotV wa) := by
  refine ⟨PE.imp (pe_not ha.run) fun σ H Q ⟨F, ρ, g, S, R, q⟩ => ?_, fun ρ h Q Q' X X' hq hx q => ?_⟩
  · refine ⟨F, ρ, g, S, R, ha.mo _ _ _ _ _ _ (fun x h1 hx => ?_) (fun _ _ z => z) q⟩
    intro F1 H1 vx e1 S1 rx
    split at hx
    · cases rx; exact ⟨_, rfl, hx F1 H1 _ e1 S1 (.bl _)⟩
    · exact hx.elim
  · refine ha.mo _ _ _ _ _ _ (fun x h1 q1 => ?_) hx q
    split at q1
    · exact hq _ _ q1
    · exact q1.elim
theorem ae_if {c : Expr} (hc : AT X E c ta) (ha : AE X E a wa) (hb : AE X E b wb) : AE X E (.IfExp c a b pos) (wIf ta wa wb) := by
  refine ⟨PE.imp (pe_ifExp hc.run ha.run hb.run) fun σ H Q ⟨F, ρ, g, S, R, q⟩ => ?_, fun ρ h Q Q' X X' hq hx q => hc.mo _ _ _ _ _ _ (fun c h1 q1 => ?_) hx q⟩
  · refine ⟨F, ρ, g, S, R, hc.mo _ _ _ _ _ _ (fun x h1 hx => ?_) (fun _ _ z => z) q⟩
    intro F1 H1 e1 S1
    split at hx
    · rename_i e; rw [if_pos e]
      exact ⟨F1, ρ, h1, S1, R.ext e1, ha.mo _ _ _ _ _ _ (fun _ _ z => LQ.ext e1 z) (fun _ _ z => LX.ext e1 z) hx⟩
    · rename_i e; rw [if_neg e]
      exact ⟨F1, ρ, h1, S1, R.ext e1, hb.mo _ _ _ _ _ _ (fun _ _ z => LQ.ext e1 z) (fun _ _ z => LX.ext e1 z) hx⟩
  · split at q1
    · rename_i e; rw [if_pos e]; exact ha.mo _ _ _ _ _ _ hq hx q1
    · rename_i e; rw [if_neg e]; exact hb.mo _ _ _ _ _ _ hq hx q1
/-! ### argument lists, displays -/
theorem aa_nil : AA X E [] wNil := ⟨PA.imp pa_nil fun σ H Q ⟨F, ρ, g, S, R, q⟩ => q F H [] (.refl F) S .nil, fun ρ h Q Q' X X' hq hx q => hq _ _ q⟩
theorem aa_cons (ha : AE X E e wa) (hr : AA X E es wl) (hs : starEach (e :: es) X.env = (false, eval e X.env) :: starEach es X.env := by rfl) : AA X E (e :: es) (wCons wa wl) := by
  refine ⟨PA.imp (pa_cons ha.run hr.run hs) fun σ H Q ⟨F, ρ, g, S, R, q⟩ => ?_, fun ρ h Q Q' X X' hq hx q => ha.mo _ _ _ _ _ _ (fun x h1 q1 => hr.mo _ _ _ _ _ _ (fun xs h2 q2 => hq _ _ q2) hx q1) hx q⟩
  refine ⟨F, ρ, g, S, R, ha.mo _ _ _ _ _ _ (fun x h1 hx => ?_) (fun _ _ z => z) q⟩
  intro F1 H1 vx e1 S1 rx
  refine ⟨F1, ρ, h1, S1, R.ext e1, hr.mo _ _ _ _ _ _ (fun xs h2 h3 => ?_) (fun _ _ z => LX.ext e1 z) hx⟩
  intro F2 H2 vs e2 S2 rs
  exact h3 F2 H2 _ (e1.trans e2) S2 (.cons (rx.ext e2) rs)
theorem ae_tup {x1} (h : AA X E es wl) : AE X E (.Tuple es x1 pos) (wTup wl) := by
  refine ⟨PE.imp (pe_tup h.run) fun σ H Q ⟨F, ρ, g, S, R, q⟩ => ?_, fun ρ h0 Q Q' X X' hq hx q => h.mo _ _ _ _ _ _ (fun x h1 q1 => ⟨q1.1, hq _ _ q1.2⟩) hx q⟩
  refine ⟨F, ρ, g, S, R, h.mo _ _ _ _ _ _ (fun xs h1 hx => ?_) (fun _ _ z => z) q⟩
  intro F1 H1 vs e1 S1 rs
  exact ⟨by rw [← rs.length]; exact hx.1, S1.newT rs (LQ.ext e1 hx.2)⟩
theorem ae_lst (m : Bool) (h : AA X E es wl) : AE X E (.List es pos) (wLst m wl) := by
  refine ⟨PE.imp (pe_lst h.run) fun σ H Q ⟨F, ρ, g, S, R, q⟩ => ?_, fun ρ h0 Q Q' X X' hq hx q => h.mo _ _ _ _ _ _ (fun x h1 q1 => ⟨q1.1, newL_mo hq q1.2⟩) hx q⟩
  refine ⟨F, ρ, g, S, R, h.mo _ _ _ _ _ _ (fun xs h1 hx => ?_) (fun _ _ z => z) q⟩
  intro F1 H1 vs e1 S1 rs
  exact ⟨by rw [← rs.length]; exact hx.1, S1.newL rs (newL_mo (fun _ _ z => LQ.ext e1 z) hx.2)⟩

/-! ### calls -/
theorem ae_call {n j : Nat} {gg : List D → List D → List D} {S : FSpec} {x : Str} {p : Pos} (c : Cg gz X E k) (C : Cal gy X.prog X.w X.K X.mg X.base x j n [] gg S) (hj : j ≤ k) (hz : gy = true → gz = true) (ha : AA X E (e :: es) wl)
    (hg : Gl X x := by rfl) (hdb : (x == ("__debug__" : Str)) = false := by decide) (he : starEach (e :: es) X.env = (false, eval e X.env) :: starEach es X.env := by rfl)
    (hpl : (backTo pos (starEach es X.env)).any (·.1) = false := by rfl) : AE X E (.Call (.Name x p) (e :: es) [] pos) (wCallP S n gg wl) := by
  obtain ⟨f, fd, ps, hm, hk, G, B⟩ := C.ex
  refine ⟨⟨fun pins s σ H Q I hq => ?_⟩, fun ρ h0 Q Q' X X' hq hx q => ha.mo _ _ _ _ _ _ (fun x h1 q1 => ⟨q1.1, G.mo _ _ _ _ _ _ hq hx q1.2⟩) hx q⟩
  obtain ⟨F, ρ, g, S0, R, q⟩ := hq
  refine wpAny_Call_Name_kw (ld_glob I hg hm ?_ hdb)
  refine PySem.W.callWith_K (h₀ := X.base) I.ok.mod.kin hk
    (thn (ha.run.run pos pins s σ H (fun vs H1 => ∃ F1 h1 ds, Sim X.K F1 h1 H1 ∧ Reps X.K F1 ds vs ∧ ds.length = n ∧ S (gg ds []) h1 (LQ X.K F1 Q) (LX X.K F1 E)) I
      ⟨F, ρ, g, S0, R, ha.mo _ _ _ _ _ _ (fun ds h1 q1 F1 H1 vs e1 S1 rs => ⟨F1, h1, ds, S1, rs, q1.1, G.mo _ _ _ _ _ _ (fun _ _ z => LQ.ext e1 z) (fun _ _ z => LX.ext e1 z) q1.2⟩) (fun _ _ z => z) q⟩) fun us s1 hh => ?_) he hpl
  obtain ⟨vs, H1, I1, r1, F1, h1, ds, S1, rs, l, q1⟩ := hh
  refine ⟨I1.kIn, ?_⟩
  obtain ⟨xs, ts, rx, rt, bt⟩ := B.to s1 F1 ds [] vs [] us [] I1.kIn l rfl rs r1 .nil .nil
  exact wpAny_call (codeAny_mono (run_g (c.mono hj) G hz I1 bt rt ⟨F1, _, h1, S1, rx, q1⟩) fun r s' hr => by
    match r, hr with
    | .error _, hr => exact hr
    | .ok (.ret _), hr => exact hr)

/-- a built-in by values -/
structure CaD (X : Cx) (f : Value) (r : List D → AH → KD → Prop) : Prop where
  ex : ∃ rv, CallR X f rv ∧ ∀ {F h H ds vs} {Q : VK}, Sim X.K F h H → Reps X.K F ds vs → r ds h (LQ X.K F Q) → rv vs H Q
  mo : ∀ {ds h} {Q Q' : KD}, (∀ d h, Q d h → Q' d h) → r ds h Q → r ds h Q'
theorem ae_b {id : String} {x : Str} {p : Pos} {r : List D → AH → KD → Prop} (C : CaD X (.builtin id) r) (hm : X.mg x = none) (hv : bootBuiltins x = some (.builtin id)) (ha : AA X E (e :: es) wl)
    (hg : Gl X x := by rfl) (hn : x ≠ "__name__" := by decide) (hdb : (x == ("__debug__" : Str)) = false := by decide)
    (he : starEach (e :: es) X.env = (false, eval e X.env) :: starEach es X.env := by rfl) (hpl : (backTo pos (starEach es X.env)).any (·.1) = false := by rfl) : AE X E (.Call (.Name x p) (e :: es) [] pos) (wB r wl) := by
  obtain ⟨rv, hc, to⟩ := C.ex
  refine ⟨PE.imp (pe_callB hc hg hm hv ha.run hn hdb he hpl) fun σ H Q ⟨F, ρ, g, S, R, q⟩ => ?_, fun ρ h0 Q Q' X X' hq hx q => ha.mo _ _ _ _ _ _ (fun x h1 q1 => C.mo hq q1) hx q⟩
  exact ⟨F, ρ, g, S, R, ha.mo _ _ _ _ _ _ (fun ds h1 q1 F1 H1 vs e1 S1 rs => to S1 rs (C.mo (fun _ _ z => LQ.ext e1 z) q1)) (fun _ _ z => z) q⟩
theorem ae_bt {T : String} {x : Str} {p : Pos} {r : List D → AH → KD → Prop} (C : CaD X (.type T) r) (hm : X.mg x = none) (hv : bootBuiltins x = some (.type T)) (ha : AA X E (e :: es) wl)
    (hg : Gl X x := by rfl) (hn : x ≠ "__name__" := by decide) (hdb : (x == ("__debug__" : Str)) = false := by decide)
    (he : starEach (e :: es) X.env = (false, eval e X.env) :: starEach es X.env := by rfl) (hpl : (backTo pos (starEach es X.env)).any (·.1) = false := by rfl) : AE X E (.Call (.Name x p) (e :: es) [] pos) (wB r wl) := by
  obtain ⟨rv, hc, to⟩ := C.ex
  refine ⟨PE.imp (pe_callTy hc hg hm hv ha.run hn hdb he hpl) fun σ H Q ⟨F, ρ, g, S, R, q⟩ => ?_, fun ρ h0 Q Q' X X' hq hx q => ha.mo _ _ _ _ _ _ (fun x h1 q1 => C.mo hq q1) hx q⟩
  exact ⟨F, ρ, g, S, R, ha.mo _ _ _ _ _ _ (fun ds h1 q1 F1 H1 vs e1 S1 rs => to S1 rs (C.mo (fun _ _ z => LQ.ext e1 z) q1)) (fun _ _ z => z) q⟩
end
end DL
namespace DL
open PySem PySem.Spec L2

/-! ### statements over data -/
def wSkip : WS := fun D ρ h => D.nx ρ h
def wBreak : WS := fun D ρ h => D.bk ρ h
def wCont : WS := fun D ρ h => D.ct ρ h
def wSeq (a b : WS) : WS := fun D ρ h => a { D with nx := b D } ρ h
def wExpr (a : WE) : WS := fun D ρ h => a ρ h (fun _ h1 => D.nx ρ h1) D.ex
def wRet (a : WE) : WS := fun D ρ h => a ρ h D.rt D.ex
def wRetN : WS := fun D _ h => D.rt .non h
def wIfS (t : WT) (a b : WS) : WS := fun D ρ h => t ρ h (fun c h1 => if c = true then a D ρ h1 else b D ρ h1) D.ex
def wNever : WS := fun _ _ _ => False
abbrev WG := D → EnvD → AH → (EnvD → AH → Prop) → KX → Prop
abbrev WGs := List D → EnvD → AH → (EnvD → AH → Prop) → KX → Prop
def gN (i : Nat) : WG := fun d ρ h Q _ => Q (ρ.set i (some d)) h
def gsNil : WGs := fun ds ρ h Q _ => ds = [] ∧ Q ρ h
def gsCons (g : WG) (r : WGs) : WGs := fun ds ρ h Q X => ∃ d ds', ds = d :: ds' ∧ g d ρ h (fun ρ1 h1 => r ds' ρ1 h1 Q X) X
def gT (n : Nat) (r : WGs) : WG := fun d ρ h Q X => ∃ xs, d = .tup xs ∧ xs.length = n ∧ r xs ρ h Q X
def wAsg (a : WE) (g : WG) : WS := fun D ρ h => a ρ h (fun x h1 => g x ρ h1 D.nx D.ex) D.ex
def wPar (i j : Nat) (a : WA) : WS := fun D ρ h => a ρ h (fun ds h1 => ∃ x y, ds = [x, y] ∧ D.nx ((ρ.set i (some x)).set j (some y)) h1) D.ex
def wAug (i : Nat) (a : WE) (f : D → D → AH → KD → Prop) : WS := fun D ρ h => ∃ x, ρ[i]? = some (some x) ∧ a ρ h (fun y h1 => f x y h1 fun z h2 => D.nx (ρ.set i (some z)) h2) D.ex
def MoG (g : WG) : Prop := ∀ d ρ h Q Q' X X', (∀ ρ h, Q ρ h → Q' ρ h) → (∀ x h, X x h → X' x h) → g d ρ h Q X → g d ρ h Q' X'
def MoGs (g : WGs) : Prop := ∀ d ρ h Q Q' X X', (∀ ρ h, Q ρ h → Q' ρ h) → (∀ x h, X x h → X' x h) → g d ρ h Q X → g d ρ h Q' X'
def tG (K : PySem.W.Frag) (E : XK) (g : WG) : TG := fun v σ H Q => ∃ F ρ h d, Sim K F h H ∧ EnvR K F ρ σ ∧ Rep K F d v ∧ g d ρ h (LS K F Q) (LX K F E)
def tGs (K : PySem.W.Frag) (E : XK) (g : WGs) : TGs := fun v σ H Q => ∃ F ρ h d, Sim K F h H ∧ EnvR K F ρ σ ∧ Reps K F d v ∧ g d ρ h (LS K F Q) (LX K F E)
structure AG (X : Cx) (E : XK) (e : Expr) (g : WG) : Prop where
  run : PG X e (tG X.K E g)
  mo : MoG g
structure AGs (X : Cx) (E : XK) (es : List Expr) (g : WGs) : Prop where
  run : PGs X es (tGs X.K E g)
  mo : MoGs g
theorem PG.imp {X : Cx} {e : Expr} {t t' : TG} (p : PG X e t) (h : ∀ v σ H Q, t' v σ H Q → t v σ H Q) : PG X e t' := ⟨fun pins s σ H v u Q I r q => p.run pins s σ H v u Q I r (h _ _ _ _ q)⟩
theorem PGs.imp {X : Cx} {e : List Expr} {t t' : TGs} (p : PGs X e t) (h : ∀ v σ H Q, t' v σ H Q → t v σ H Q) : PGs X e t' := ⟨fun pins s σ H v u Q I r q => p.run pins s σ H v u Q I r (h _ _ _ _ q)⟩

section
variable {X : Cx} {E : XK} {k : Nat} {a b e : Expr} {es : List Expr} {wa wb wc : WE} {ta : WT} {wl : WA} {pos : Pos} {st : Stmt} {rest : List Stmt} {s1 s2 : WS}
theorem Le.nx {D D' : EndsD} (l : D.Le D') (q : ∀ ρ h, D.nx ρ h → D'.nx ρ h) : D.Le D' := ⟨q, l.rt, l.bk, l.ct, l.ex⟩
theorem ass_nil : ASs X E [] wSkip := ⟨PSs.imp pss_nil fun D σ H ⟨F, ρ, h, S, R, q⟩ => q F H σ (.refl F) S R, fun D D' ρ h l q => l.nx _ _ q⟩
theorem mo_seq (h1 : MoS s1) (h2 : MoS s2) : MoS (wSeq s1 s2) := fun D D' ρ h l q => h1 { D with nx := s2 D } { D' with nx := s2 D' } _ _ ⟨fun ρ h z => h2 _ _ _ _ l z, l.rt, l.bk, l.ct, l.ex⟩ q
theorem ass_cons (h1 : AS X E st s1) (h2 : ASs X E rest s2) : ASs X E (st :: rest) (wSeq s1 s2) := by
  refine ⟨PSs.imp (pss_cons h1.run h2.run) fun D σ H ⟨F, ρ, h, S, R, q⟩ => ?_, mo_seq h1.mo h2.mo⟩
  refine ⟨F, ρ, h, S, R, h1.mo { LD X.K F D E with nx := s2 (LD X.K F D E) } _ _ _ ⟨fun ρ1 g1 z => ?_, fun _ _ z => z, fun _ _ z => z, fun _ _ z => z, fun _ _ z => z⟩ q⟩
  intro F1 H1 σ1 e1 S1 R1
  exact ⟨F1, ρ1, g1, S1, R1, h2.mo _ _ _ _ (LD.ext e1) z⟩
theorem ass_one (h1 : AS X E st s1) : ASs X E [st] s1 := ⟨PSs.imp (pss_one h1.run) fun D σ H q => q, h1.mo⟩
theorem as_pass : AS X E (.Pass pos) wSkip := ⟨PS.imp ps_pass fun D σ H ⟨F, ρ, h, S, R, q⟩ => q F H σ (.refl F) S R, fun D D' ρ h l q => l.nx _ _ q⟩
theorem as_break : AS X E (.Break pos) wBreak := ⟨PS.imp ps_break fun D σ H ⟨F, ρ, h, S, R, q⟩ => q F H σ (.refl F) S R, fun D D' ρ h l q => l.bk _ _ q⟩
theorem as_continue : AS X E (.Continue pos) wCont := ⟨PS.imp ps_continue fun D σ H ⟨F, ρ, h, S, R, q⟩ => q F H σ (.refl F) S R, fun D D' ρ h l q => l.ct _ _ q⟩
theorem as_doc {x j pos'} : AS X E (.Expr (.Constant (.str x) j pos) pos') wSkip := ⟨PS.imp ps_doc fun D σ H ⟨F, ρ, h, S, R, q⟩ => q F H σ (.refl F) S R, fun D D' ρ h l q => l.nx _ _ q⟩
theorem as_never : AS X E st wNever := ⟨PS.imp ps_never fun D σ H ⟨_, _, _, _, _, q⟩ => q, fun _ _ _ _ _ q => q⟩
theorem as_expr (he : AE X E e wa) (hs : swapsWith e none pos.line X.env = pure false := by rfl) : AS X E (.Expr e pos) (wExpr wa) := by
  refine ⟨PS.imp (ps_expr he.run hs) fun D σ H ⟨F, ρ, h, S, R, q⟩ => ?_, fun D D' ρ h l q => he.mo _ _ _ _ _ _ (fun _ _ z => l.nx _ _ z) l.ex q⟩
  refine ⟨F, ρ, h, S, R, he.mo _ _ _ _ _ _ (fun d h1 z => ?_) (fun _ _ z => z) q⟩
  intro F1 H1 v e1 S1 _
  exact z F1 H1 σ e1 S1 (R.ext e1)
theorem as_ret (he : AE X E e wa) : AS X E (.Return (some e) pos) (wRet wa) :=
  ⟨PS.imp (ps_ret he.run) fun D σ H ⟨F, ρ, h, S, R, q⟩ => ⟨F, ρ, h, S, R, q⟩, fun D D' ρ h l q => he.mo _ _ _ _ _ _ l.rt l.ex q⟩
theorem as_retN : AS X E (.Return none pos) wRetN := ⟨PS.imp ps_retN fun D σ H ⟨F, ρ, h, S, R, q⟩ => q F H .non (.refl F) S .non, fun D D' ρ h l q => l.rt _ _ q⟩
theorem as_if {c : Expr} {A B : List Stmt} (hc : AT X E c ta) (ha : ASs X E A s1) (hb : ASs X E B s2) : AS X E (.If c A B pos) (wIfS ta s1 s2) := by
  refine ⟨PS.imp (ps_if hc.run ha.run hb.run) fun D σ H ⟨F, ρ, h, S, R, q⟩ => ?_, fun D D' ρ h l q => hc.mo _ _ _ _ _ _ (fun c h1 q1 => ?_) l.ex q⟩
  · refine ⟨F, ρ, h, S, R, hc.mo _ _ _ _ _ _ (fun x h1 hx => ?_) (fun _ _ z => z) q⟩
    intro F1 H1 e1 S1
    split at hx
    · rename_i e; rw [if_pos e]; exact ⟨F1, ρ, h1, S1, R.ext e1, ha.mo _ _ _ _ (LD.ext e1) hx⟩
    · rename_i e; rw [if_neg e]; exact ⟨F1, ρ, h1, S1, R.ext e1, hb.mo _ _ _ _ (LD.ext e1) hx⟩
  · split at q1
    · rename_i e; rw [if_pos e]; exact ha.mo _ _ _ _ l q1
    · rename_i e; rw [if_neg e]; exact hb.mo _ _ _ _ l q1
/-! ### targets -/
theorem ag_name (i : Nat) {x : Str} (hN : X.N.Nodup) (hi : X.N[i]? = some x := by rfl) (hx : Loc X.env.scope x := by first | exact Or.inl rfl | exact Or.inr rfl) (hf : X.fn x = true ∨ X.env.scope.names.lookup x = some .local := by first | exact .inl rfl | exact .inr rfl) : AG X E (.Name x pos) (gN i) := by
  refine ⟨PG.imp (pg_name hN hi hx hf) fun v σ H Q ⟨F, ρ, h, d, S, R, r, q⟩ => q F H _ (.refl F) S (R.set r i), fun d ρ h Q Q' X X' hq _ q => hq _ _ q⟩
theorem ags_nil : AGs X E [] gsNil := by
  refine ⟨PGs.imp pgs_nil fun v σ H Q ⟨F, ρ, h, d, S, R, r, q⟩ => ?_, fun d ρ h Q Q' X X' hq _ q => ⟨q.1, hq _ _ q.2⟩⟩
  obtain ⟨rfl, q⟩ := q
  cases r
  exact ⟨rfl, q F H _ (.refl F) S R⟩
theorem ags_cons {g : WG} {gr : WGs} (h1 : AG X E e g) (h2 : AGs X E es gr) (hs : (assignEach (e :: es) X.env).map (·.2) = assign e X.env :: (assignEach es X.env).map (·.2) := by rfl) : AGs X E (e :: es) (gsCons g gr) := by
  refine ⟨PGs.imp (pgs_cons h1.run h2.run hs) fun v σ H Q ⟨F, ρ, h, d, S, R, r, q⟩ => ?_, fun d ρ h Q Q' X X' hq hx q => ?_⟩
  · obtain ⟨x, xs, rfl, q⟩ := q
    cases r with
    | cons r rr =>
      refine ⟨_, _, rfl, F, ρ, h, x, S, R, r, h1.mo _ _ _ _ _ _ _ (fun ρ1 g1 z => ?_) (fun _ _ z => z) q⟩
      intro F1 H1 σ1 e1 S1 R1
      exact ⟨F1, ρ1, g1, xs, S1, R1, rr.ext e1, h2.mo _ _ _ _ _ _ _ (fun _ _ z => LS.ext e1 z) (fun _ _ z => LX.ext e1 z) z⟩
  · obtain ⟨x, xs, e, q⟩ := q
    exact ⟨x, xs, e, h1.mo _ _ _ _ _ _ _ (fun ρ1 g1 z => h2.mo _ _ _ _ _ _ _ hq hx z) hx q⟩
theorem ag_tup {k2 n : Nat} {gr : WGs} (hc : X.calm = true) (h : AGs X E es gr) (hn : (assignEach es X.env).length = n := by rfl) (hst : (assignEach es X.env).findIdx? (·.1) = none := by rfl) : AG X E (.Tuple es k2 pos) (gT n gr) := by
  refine ⟨PG.imp (pg_tup hc h.run hn hst) fun v σ H Q ⟨F, ρ, g, d, S, R, r, q⟩ => ?_, fun d ρ g Q Q' X X' hq hx q => ?_⟩
  · obtain ⟨xs, rfl, l, q⟩ := q
    cases r with
    | @tup a _ vs hs rs => exact ⟨a, vs, rfl, sqt_of S.fz hs, by rw [← rs.length]; exact l, F, ρ, g, xs, S, R, rs, q⟩
  · obtain ⟨xs, e, l, q⟩ := q
    exact ⟨xs, e, l, h.mo _ _ _ _ _ _ _ hq hx q⟩
theorem mo_asg {g : WG} (h1 : MoE wa) (h2 : MoG g) : MoS (wAsg wa g) := fun D D' ρ h l q => h1 _ _ _ _ _ _ (fun x h1 z => h2 _ _ _ _ _ _ _ l.nx l.ex z) l.ex q
theorem to_asg {g : WG} (he : AE X E e wa) (hg : AG X E a g) {D : Ends} {σ : L2.St} {H : Hp} (q : tS X.K E (wAsg wa g) D σ H) : tAsg (tE X.K E wa) (tG X.K E g) D σ H := by
  obtain ⟨F, ρ, h, S, R, q⟩ := q
  refine ⟨F, ρ, h, S, R, he.mo _ _ _ _ _ _ (fun x h1 z => ?_) (fun _ _ z => z) q⟩
  intro F1 H1 v e1 S1 r
  exact ⟨F1, ρ, h1, x, S1, R.ext e1, r, hg.mo _ _ _ _ _ _ _ (fun _ _ z => LS.ext e1 z) (fun _ _ z => LX.ext e1 z) z⟩
theorem as_asg {tg : Expr} {g : WG} (he : AE X E e wa) (hg : AG X E tg g) (hs : swapsWithSole [tg] e pos.line X.env = pure false := by rfl) (hw : swappedStores [tg] e X.env = pure none := by rfl)
    (h1 : (assignEach [tg] X.env).map (·.2) = [assign tg X.env] := by rfl) : AS X E (.Assign [tg] e pos) (wAsg wa g) :=
  ⟨PS.imp (ps_asg he.run hg.run hs hw h1) fun D σ H q => to_asg he hg q, mo_asg he.mo hg.mo⟩
/-- name = value -/
theorem as_set (i : Nat) {x : Str} {pos' : Pos} (hN : X.N.Nodup) (he : AE X E e wa) (hi : X.N[i]? = some x := by rfl) (hx : Loc X.env.scope x := by first | exact Or.inl rfl | exact Or.inr rfl) (hs : swapsWith e (some (.Name x pos')) pos.line X.env = pure false := by rfl)
    (hf : X.fn x = true ∨ X.env.scope.names.lookup x = some .local := by first | exact .inl rfl | exact .inr rfl) : AS X E (.Assign [.Name x pos'] e pos) (wAsg wa (gN i)) := by
  have ag : AG X E (.Name x pos') (gN i) := ag_name i hN hi hx hf
  refine ⟨PS.imp (ps_set hN hi hx he.run hs hf) fun D σ H q => ?_, mo_asg he.mo ag.mo⟩
  obtain ⟨F, ρ, h, S, R, q⟩ := q
  refine ⟨F, ρ, h, S, R, he.mo _ _ _ _ _ _ (fun x h1 z => ?_) (fun _ _ z => z) q⟩
  intro F1 H1 v e1 S1 r
  exact z F1 H1 _ e1 S1 ((R.ext e1).set r i)
theorem as_par (i j : Nat) {x y : Str} {px py pt : Pos} {kt k2 pt2} (c : Cg gz X E k) (hij : i ≠ j) (ha : AA X E [a, b] wl)
    (hi : X.N[i]? = some x := by rfl) (hj : X.N[j]? = some y := by rfl)
    (hx : X.env.scope.names.lookup x = some .local := by rfl) (hy : X.env.scope.names.lookup y = some .local := by rfl)
    (hw : swappedStores [.Tuple [.Name x px, .Name y py] kt pt] (.Tuple [a, b] k2 pt2) X.env = pure (some [x, y]) := by rfl)
    (hs : swapsWithSole [.Tuple [.Name x px, .Name y py] kt pt] (.Tuple [a, b] k2 pt2) pos.line X.env = pure false := by rfl) :
    AS X E (.Assign [.Tuple [.Name x px, .Name y py] kt pt] (.Tuple [a, b] k2 pt2) pos) (wPar i j wl) := by
  refine ⟨PS.imp (ps_par c.calm c.nd hi hj hij hx hy ha.run hw hs) fun D σ H ⟨F, ρ, h, S, R, q⟩ => ?_, fun D D' ρ h l q => ha.mo _ _ _ _ _ _ (fun ds h1 ⟨x, y, e, z⟩ => ⟨x, y, e, l.nx _ _ z⟩) l.ex q⟩
  refine ⟨F, ρ, h, S, R, ha.mo _ _ _ _ _ _ (fun ds h1 z => ?_) (fun _ _ z => z) q⟩
  intro F1 H1 vs e1 S1 rs
  obtain ⟨x, y, rfl, z⟩ := z
  cases rs with
  | cons r1 rs =>
    cases rs with
    | cons r2 rs =>
      cases rs
      exact ⟨_, _, rfl, z F1 H1 _ e1 S1 (((R.ext e1).set r1 i).set r2 j)⟩
theorem as_aug (i : Nat) {x : Str} {op : Operator} {r : R2} {f : D → D → AH → KD → Prop} {pos' : Pos} (hN : X.N.Nodup) (ok : OpD X.K r f) (ho : OpR X (inplaceOp op) r) (he : AE X E e wa)
    (hi : X.N[i]? = some x := by rfl) (hx : Loc X.env.scope x := by first | exact Or.inl rfl | exact Or.inr rfl) (hf : X.fn x = true ∨ X.env.scope.names.lookup x = some .local := by first | exact .inl rfl | exact .inr rfl) :
    AS X E (.AugAssign (.Name x pos') op e pos) (wAug i wa f) := by
  refine ⟨PS.imp (ps_aug (ti := r) hN hi hx he.run (fun pins s σ H x y v u Q I r1 r2 q => ho pins s σ H x y v u Q I r1 r2 q) hf) fun D σ H ⟨F, ρ, h, S, R, q⟩ => ?_, fun D D' ρ h l q => ?_⟩
  · obtain ⟨x, hx, q⟩ := q
    obtain ⟨v, hv, rv⟩ := R.2 _ _ hx
    refine ⟨v, hv, F, ρ, h, S, R, he.mo _ _ _ _ _ _ (fun y h1 z => ?_) (fun _ _ z => z) q⟩
    intro F1 H1 vy e1 S1 ry
    refine ok.to S1 (rv.ext e1) ry (ok.mo (fun d h2 w => ?_) z)
    intro F2 H2 v2 e2 S2 r2
    exact w F2 H2 _ (e1.trans e2) S2 ((R.ext (e1.trans e2)).set r2 i)
  · obtain ⟨x, hx, q⟩ := q
    exact ⟨x, hx, he.mo _ _ _ _ _ _ (fun y h1 z => ok.mo (fun _ _ z => l.nx _ _ z) z) l.ex q⟩
end

/-! ### while -/
def wWhile (c : WT) (tb : WS) : WS := fun D ρ h => ∃ W : Nat → EnvD → AH → Prop, (∃ m, W m ρ h) ∧ ∀ m ρ h, W m ρ h →
  c ρ h (fun b h1 => if b = true then tb { D with nx := fun ρ' h' => ∃ m', m' < m ∧ W m' ρ' h', ct := fun ρ' h' => ∃ m', m' < m ∧ W m' ρ' h', bk := D.nx } ρ h1 else D.nx ρ h1) D.ex
section
variable {X : Cx} {E : XK} {k : Nat} {e : Expr} {ta : WT} {pos : Pos} {body : List Stmt} {tb : WS}
theorem as_while (c : Cg gz X E k) (hc : AT X E e ta) (hb : ASs X E body tb) : AS X E (.While e body [] pos) (wWhile ta tb) := by
  refine ⟨PS.imp (ps_while c.po hc.run hb.run) fun D σ H ⟨F, ρ, h, S, R, q⟩ => ?_, fun D D' ρ h l q => ?_⟩
  · obtain ⟨W, ⟨m0, w0⟩, turn⟩ := q
    refine ⟨fun m σ H => ∃ F1 ρ1 h1, Ext F F1 ∧ Sim X.K F1 h1 H ∧ EnvR X.K F1 ρ1 σ ∧ W m ρ1 h1, ⟨m0, F, ρ, h, .refl F, S, R, w0⟩, ?_⟩
    rintro m σ1 H1 ⟨F1, ρ1, h1, e1, S1, R1, w1⟩
    refine ⟨F1, ρ1, h1, S1, R1, hc.mo _ _ _ _ _ _ (fun b h2 z => ?_) (fun _ _ z => LX.ext e1 z) (turn m ρ1 h1 w1)⟩
    intro F2 H2 e2 S2
    have e12 := e1.trans e2
    split at z
    · rename_i cb
      rw [if_pos cb]
      refine ⟨fun σ' H' => ∃ F3 ρ3 h3 m', m' < m ∧ Ext F F3 ∧ Sim X.K F3 h3 H' ∧ EnvR X.K F3 ρ3 σ' ∧ W m' ρ3 h3, fun σ' H' ⟨F3, ρ3, h3, m', lt, e3, S3, R3, w3⟩ => ⟨m', lt, F3, ρ3, h3, e3, S3, R3, w3⟩, F2, ρ1, h2, S2, R1.ext e2, hb.mo _ _ _ _ ?_ z⟩
      refine ⟨fun ρ4 h4 z4 F4 H4 σ4 e4 S4 R4 => ?_, fun _ _ z => LQ.ext e12 z, fun ρ4 h4 z4 => LS.ext e12 z4, fun ρ4 h4 z4 F4 H4 σ4 e4 S4 R4 => ?_, fun _ _ z => LX.ext e12 z⟩
      · obtain ⟨m', lt, w⟩ := z4
        exact ⟨F4, ρ4, h4, m', lt, e12.trans e4, S4, R4, w⟩
      · obtain ⟨m', lt, w⟩ := z4
        exact ⟨F4, ρ4, h4, m', lt, e12.trans e4, S4, R4, w⟩
    · rename_i cb
      rw [if_neg cb]
      exact z F2 H2 σ1 e12 S2 (R1.ext e2)
  · obtain ⟨W, w0, turn⟩ := q
    refine ⟨W, w0, fun m ρ h w => hc.mo _ _ _ _ _ _ (fun b h1 z => ?_) l.ex (turn m ρ h w)⟩
    split at z
    · rename_i cb; rw [if_pos cb]
      exact hb.mo { D with nx := fun ρ' h' => ∃ m', m' < m ∧ W m' ρ' h', ct := fun ρ' h' => ∃ m', m' < m ∧ W m' ρ' h', bk := D.nx } _ _ _ ⟨fun _ _ z => z, l.rt, fun _ _ z => l.nx _ _ z, fun _ _ z => z, l.ex⟩ z
    · rename_i cb; rw [if_neg cb]; exact l.nx _ _ z
end

/-! ### what is walked -/
structure ItD (K : PySem.W.Frag) (F : Hp) (J : It) (xs : List D) (st : AH → Prop) : Prop where
  go : ∀ {i F' h H}, Ext F F' → Sim K F' h H → st h → i < xs.length → J.go i H
  stop : ∀ {i F' h H}, Ext F F' → Sim K F' h H → st h → xs.length = i → J.stop i H
  yld : ∀ {i F' h H x H' d}, Ext F F' → Sim K F' h H → st h → J.yld i H x H' → xs[i]? = some d → ∃ F'', Ext F' F'' ∧ Sim K F'' h H' ∧ Rep K F'' d x
abbrev WI := EnvD → AH → (List D → (AH → Prop) → AH → Prop) → KX → Prop
def MoI (w : WI) : Prop := ∀ ρ h Q Q' X X', (∀ xs st h, Q xs st h → Q' xs st h) → (∀ x h, X x h → X' x h) → w ρ h Q X → w ρ h Q' X'
def LI (K : PySem.W.Frag) (F : Hp) (R : It → Hp → Prop) : List D → (AH → Prop) → AH → Prop := fun xs st h => ∀ F' H' J, Ext F F' → Sim K F' h H' → ItD K F' J xs st → R J H'
def tI (K : PySem.W.Frag) (E : XK) (w : WI) : TI := fun σ H R => ∃ F ρ h, Sim K F h H ∧ EnvR K F ρ σ ∧ w ρ h (LI K F R) (LX K F E)
structure AI (X : Cx) (E : XK) (tg iter : Expr) (w : WI) : Prop where
  run : PI X tg iter (tI X.K E w)
  mo : MoI w
theorem PI.imp {X : Cx} {tg e : Expr} {t t' : TI} (p : PI X tg e t) (h : ∀ σ H Q, t' σ H Q → t σ H Q) : PI X tg e t' := ⟨fun pins s σ H Q I q => p.run pins s σ H Q I (h _ _ _ q)⟩
def loopD (st : AH → Prop) (g : WG) (tb : WS) (Z : EndsD) : List D → EnvD → AH → Prop
  | [], ρ, h => st h ∧ Z.nx ρ h
  | x :: r, ρ, h => st h ∧ g x ρ h (fun ρ2 h2 => tb { Z with nx := loopD st g tb Z r, ct := loopD st g tb Z r, bk := Z.nx } ρ2 h2) Z.ex
def wFor (wi : WI) (g : WG) (tb : WS) : WS := fun D ρ h => wi ρ h (fun xs st h1 => loopD st g tb D xs ρ h1) D.ex
theorem loopD_mo {st : AH → Prop} {g : WG} {tb : WS} (mg : MoG g) (mb : MoS tb) {Z Z' : EndsD} (l : Z.Le Z') : ∀ (xs : List D) (ρ : EnvD) (h : AH), loopD st g tb Z xs ρ h → loopD st g tb Z' xs ρ h
  | [], ρ, h, q => ⟨q.1, l.nx _ _ q.2⟩
  | x :: r, ρ, h, q => ⟨q.1, mg _ _ _ _ _ _ _ (fun ρ2 h2 z => mb { Z with nx := loopD st g tb Z r, ct := loopD st g tb Z r, bk := Z.nx } _ _ _ ⟨fun _ _ z => loopD_mo mg mb l r _ _ z, l.rt, fun _ _ z => l.nx _ _ z, fun _ _ z => loopD_mo mg mb l r _ _ z, l.ex⟩ z) l.ex q.2⟩
/-- a loop by an invariant -/
theorem loopD_inv {st : AH → Prop} {g : WG} {tb : WS} {Z : EndsD} {xs : List D} (P : Nat → EnvD → AH → Prop) {ρ : EnvD} {h : AH} (h0 : P 0 ρ h) (hst : ∀ i ρ h, P i ρ h → st h)
    (hs : ∀ i x ρ h, xs[i]? = some x → P i ρ h → g x ρ h (fun ρ2 h2 => tb { Z with nx := P (i + 1), ct := P (i + 1), bk := Z.nx } ρ2 h2) Z.ex) (hd : ∀ ρ h, P xs.length ρ h → Z.nx ρ h) (mg : MoG g) (mb : MoS tb) : loopD st g tb Z xs ρ h := by
  suffices H : ∀ (n i : Nat) (ρ : EnvD) (h : AH), xs.length - i = n → i ≤ xs.length → P i ρ h → loopD st g tb Z (xs.drop i) ρ h by
    simpa using H xs.length 0 ρ h (by simp) (Nat.zero_le _) h0
  intro n
  induction n with
  | zero =>
    intro i ρ h e l p
    have : i = xs.length := by omega
    subst this
    rw [List.drop_length]
    exact ⟨hst _ _ _ p, hd _ _ p⟩
  | succ n ih =>
    intro i ρ h e l p
    have lt : i < xs.length := by omega
    rw [List.drop_eq_getElem_cons lt]
    refine ⟨hst _ _ _ p, mg _ _ _ _ _ _ _ (fun ρ2 h2 z => mb { Z with nx := P (i + 1), ct := P (i + 1), bk := Z.nx } _ _ _ ⟨fun ρ' h' z => ih (i + 1) ρ' h' (by omega) lt z, fun _ _ z => z, fun _ _ z => z, fun ρ' h' z => ih (i + 1) ρ' h' (by omega) lt z, fun _ _ z => z⟩ z) (fun _ _ z => z) (hs i _ ρ h (List.getElem?_eq_getElem lt) p)⟩
section
variable {X : Cx} {E : XK} {k : Nat} {e tg iter : Expr} {pos : Pos} {body : List Stmt} {tb : WS} {wi : WI} {g : WG}
theorem as_for (c : Cg gz X E k) (hi : AI X E tg iter wi) (hg : AG X E tg g) (hb : ASs X E body tb) (hs : ∀ x, foldedSetIterable iter X.env x = pure x := by intro _; rfl) : AS X E (.For tg iter body [] pos) (wFor wi g tb) := by
  refine ⟨PS.imp (ps_for c.po c.calm hi.run hg.run hb.run hs) fun D σ H ⟨F, ρ, h, S, R, q⟩ => ?_, fun D D' ρ h l q => hi.mo _ _ _ _ _ _ (fun xs st h z => loopD_mo hg.mo hb.mo l _ _ _ z) l.ex q⟩
  refine ⟨F, ρ, h, S, R, hi.mo _ _ _ _ _ _ (fun xs st h1 z => ?_) (fun _ _ z => z) q⟩
  intro F1 H1 J e1 S1 it
  refine ⟨fun i m σ H => m = xs.length - i ∧ i ≤ xs.length ∧ ∃ F2 ρ2 h2, Ext F1 F2 ∧ Sim X.K F2 h2 H ∧ EnvR X.K F2 ρ2 σ ∧ loopD st g tb (LD X.K F D E) (xs.drop i) ρ2 h2, ⟨xs.length, by simp, Nat.zero_le _, F1, ρ, h1, .refl _, S1, R.ext e1, by simpa using z⟩, ?_⟩
  rintro i m σ2 H2 ⟨rfl, hi2, F2, ρ2, h2, e2, S2, R2, z2⟩
  by_cases lt : i < xs.length
  · rw [List.drop_eq_getElem_cons lt] at z2
    obtain ⟨hst, z2⟩ := z2
    refine .inr ⟨it.go e2 S2 hst lt, fun σ' H' => ∃ F3 ρ3 h3, Ext F1 F3 ∧ Sim X.K F3 h3 H' ∧ EnvR X.K F3 ρ3 σ' ∧ loopD st g tb (LD X.K F D E) (xs.drop (i + 1)) ρ3 h3, fun σ' H' p => ⟨xs.length - (i + 1), by omega, rfl, lt, p⟩, fun x H' y => ?_⟩
    obtain ⟨F3, e3, S3, r3⟩ := it.yld e2 S2 hst y (List.getElem?_eq_getElem lt)
    have e13 := e1.trans (e2.trans e3)
    refine ⟨F3, ρ2, h2, _, S3, R2.ext e3, r3, hg.mo _ _ _ _ _ _ _ (fun ρ4 h4 z4 => ?_) (fun _ _ z => LX.ext e13 z) z2⟩
    intro F4 H4 σ4 e4 S4 R4
    have e14 := e13.trans e4
    refine ⟨F4, ρ4, h4, S4, R4, hb.mo _ _ _ _ ⟨fun ρ5 h5 z5 F5 H5 σ5 e5 S5 R5 => ⟨F5, ρ5, h5, (e2.trans e3).trans (e4.trans e5), S5, R5, z5⟩, fun _ _ z => LQ.ext e14 z, fun _ _ z => LS.ext e14 z, fun ρ5 h5 z5 F5 H5 σ5 e5 S5 R5 => ⟨F5, ρ5, h5, (e2.trans e3).trans (e4.trans e5), S5, R5, z5⟩, fun _ _ z => LX.ext e14 z⟩ z4⟩
  · have e : i = xs.length := by omega
    subst e
    rw [List.drop_length] at z2
    exact .inl ⟨it.stop e2 S2 z2.1 rfl, z2.2 F2 H2 σ2 (e1.trans e2) S2 R2⟩
/-! sources -/
def iSeq (wa : WE) : WI := fun ρ h R X => wa ρ h (fun x h1 => match x with
  | .lst xs => R xs (fun _ => True) h1
  | .ref a => ∃ xs, h1 a = some (.lst xs) ∧ R xs (fun h => h a = some (.lst xs)) h1
  | _ => False) X
def iTupD (wa : WE) : WI := fun ρ h R X => wa ρ h (fun x h1 => match x with
  | .tup xs => R xs (fun _ => True) h1
  | .tpl xs => R xs (fun _ => True) h1
  | _ => False) X
def intsD (lo : Int) (n : Nat) : List D := (List.range n).map fun i => D.int (lo + (i : Nat))
def iRng1 (wl : WA) : WI := fun ρ h R X => wl ρ h (fun ds h1 => match ds with
  | [.int j] => -(2 ^ 62) ≤ j ∧ j < 2 ^ 62 ∧ R (intsD 0 j.toNat) (fun _ => True) h1
  | _ => False) X
def iRng2 (wl : WA) : WI := fun ρ h R X => wl ρ h (fun ds h1 => match ds with
  | [.int i, .int j] => (-(2 ^ 62) ≤ i ∧ i < 2 ^ 62 ∧ -(2 ^ 62) ≤ j ∧ j < 2 ^ 62) ∧ R (intsD i (j - i).toNat) (fun _ => True) h1
  | _ => False) X
theorem ItD.list {K : PySem.W.Frag} {F : Hp} {a : Addr} {xs : List D} {st : AH → Prop} (h : ∀ {F' h H}, Ext F F' → Sim K F' h H → st h → ∃ vs, SqL K H a vs ∧ Reps K F' xs vs) : ItD K F (Itl K a) xs st where
  go := fun {i F' h0 H} e S s l => by
    obtain ⟨vs, q, r⟩ := h e S s
    obtain ⟨v, hv, _⟩ := r.get (List.getElem?_eq_getElem l)
    exact ⟨vs, v, q, hv⟩
  stop := fun {i F' h0 H} e S s l => by
    obtain ⟨vs, q, r⟩ := h e S s
    exact ⟨vs, q, by rw [← r.length]; exact Nat.le_of_eq l⟩
  yld := fun {i F' h0 H x H' d} e S s y hd => by
    obtain ⟨rfl, y⟩ := y
    obtain ⟨vs, q, r⟩ := h e S s
    obtain ⟨v, hv, rv⟩ := r.get hd
    have := y vs q
    rw [hv] at this; cases this
    exact ⟨F', .refl _, S, rv⟩
theorem ItD.tup {K : PySem.W.Frag} {F : Hp} {a : Addr} {xs : List D} {vs : List V} (q : SqT K F a vs) (r : Reps K F xs vs) : ItD K F (Itt K a) xs (fun _ => True) where
  go := fun {i F' h0 H} e S s l => by
    obtain ⟨v, hv, _⟩ := r.get (List.getElem?_eq_getElem l)
    exact ⟨vs, v, sqt_of S.fz (e.sqt q), hv⟩
  stop := fun {i F' h0 H} e S s l => ⟨vs, sqt_of S.fz (e.sqt q), by rw [← r.length]; exact Nat.le_of_eq l⟩
  yld := fun {i F' h0 H x H' d} e S s y hd => by
    obtain ⟨rfl, y⟩ := y
    obtain ⟨v, hv, rv⟩ := r.get hd
    have := y vs (sqt_of S.fz (e.sqt q))
    rw [hv] at this; cases this
    exact ⟨F', .refl _, S, rv.ext e⟩
theorem intsD_len {lo : Int} {n : Nat} : (intsD lo n).length = n := by simp [intsD]
theorem intsD_get {lo : Int} {n i : Nat} {d : D} (h : (intsD lo n)[i]? = some d) : d = .int (lo + (i : Nat)) ∧ i < n := by
  unfold intsD at h
  rw [List.getElem?_map] at h
  by_cases c : i < n
  · rw [List.getElem?_range c] at h
    cases h; exact ⟨rfl, c⟩
  · rw [List.getElem?_eq_none (by simpa using c)] at h; cases h
theorem ItD.rng {K : PySem.W.Frag} {F : Hp} {lo : Int} {n : Nat} : ItD K F (Itr lo n) (intsD lo n) (fun _ => True) where
  go := fun {i F' h0 H} e S s l => by rw [intsD_len] at l; exact l
  stop := fun {i F' h0 H} e S s l => by rw [intsD_len] at l; exact Nat.le_of_eq l
  yld := fun {i F' h0 H x H' d} e S s y hd => by
    obtain ⟨rfl, rfl⟩ := y
    obtain ⟨rfl, _⟩ := intsD_get hd
    exact ⟨F', .refl _, S, .int _⟩
variable {wa : WE} {wl : WA} {es : List Expr} {p : Pos}
theorem ai_list {l : Expr} (hl : AE X E l wa) : AI X E tg l (iSeq wa) := by
  refine ⟨PI.imp (pi_list hl.run) fun σ H R ⟨F, ρ, g, S, Rr, q⟩ => ?_, fun ρ h Q Q' X X' hq hx q => hl.mo _ _ _ _ _ _ (fun x h1 z => ?_) hx q⟩
  · refine ⟨F, ρ, g, S, Rr, hl.mo _ _ _ _ _ _ (fun x h1 z => ?_) (fun _ _ z => z) q⟩
    intro F1 H1 v e1 S1 r
    split at z
    · cases r with
      | @lst a xs vs hf rs =>
        exact ⟨a, rfl, ⟨vs, .of (S1.fz _ _ hf)⟩, z F1 H1 _ e1 S1 (ItD.list fun {F' h0 H0} e S _ => ⟨vs, .of (S.fz _ _ (e _ _ hf)), rs.ext e⟩)⟩
    · rename_i a
      obtain ⟨xs, hx, z⟩ := z
      cases r
      obtain ⟨_, u, hu, vs, rfl, rs⟩ := S1.ob _ _ hx
      refine ⟨a, rfl, ⟨vs, .of hu⟩, z F1 H1 _ e1 S1 (ItD.list fun {F' h0 H0} e S st => ?_)⟩
      obtain ⟨_, u', hu', vs', rfl, rs'⟩ := S.ob _ _ st
      exact ⟨vs', .of hu', rs'⟩
    · exact z.elim
  · split at z
    · exact hq _ _ _ z
    · obtain ⟨xs, hx, z⟩ := z
      exact ⟨xs, hx, hq _ _ _ z⟩
    · exact z.elim
theorem ai_tup {l : Expr} (hl : AE X E l wa) : AI X E tg l (iTupD wa) := by
  refine ⟨PI.imp (pi_tup hl.run) fun σ H R ⟨F, ρ, g, S, Rr, q⟩ => ?_, fun ρ h Q Q' X X' hq hx q => hl.mo _ _ _ _ _ _ (fun x h1 z => ?_) hx q⟩
  · refine ⟨F, ρ, g, S, Rr, hl.mo _ _ _ _ _ _ (fun x h1 z => ?_) (fun _ _ z => z) q⟩
    intro F1 H1 v e1 S1 r
    split at z
    · cases r with
      | @tup a xs vs hf rs => exact ⟨a, rfl, ⟨vs, sqt_of S1.fz hf⟩, z F1 H1 _ e1 S1 (ItD.tup hf rs)⟩
    · cases r with
      | @tpl a ob xs vs hf hd rs => exact ⟨a, rfl, ⟨vs, sqt_of S1.fz (.inl (.inr ⟨_, hf⟩))⟩, z F1 H1 _ e1 S1 (ItD.tup (.inl (.inr ⟨_, hf⟩)) rs)⟩
    · exact z.elim
  · split at z
    · exact hq _ _ _ z
    · exact hq _ _ _ z
    · exact z.elim
theorem ai_rng1 {a : Expr} (hm : X.mg "range" = none) (ha : AA X E [a] wl) (hg : Gl X "range" := by rfl) (hs : starEach [a] X.env = [(false, eval a X.env)] := by rfl) : AI X E tg (.Call (.Name "range" p) [a] [] pos) (iRng1 wl) := by
  refine ⟨PI.imp (pi_range1 hg hm ha.run hs) fun σ H R ⟨F, ρ, g, S, Rr, q⟩ => ?_, fun ρ h Q Q' X X' hq hx q => ha.mo _ _ _ _ _ _ (fun ds h1 z => ?_) hx q⟩
  · refine ⟨F, ρ, g, S, Rr, ha.mo _ _ _ _ _ _ (fun ds h1 z => ?_) (fun _ _ z => z) q⟩
    intro F1 H1 vs e1 S1 rs
    split at z
    · cases rs with
      | cons r rs => cases rs; cases r; exact ⟨_, rfl, z.1, z.2.1, z.2.2 F1 H1 _ e1 S1 ItD.rng⟩
    · exact z.elim
  · split at z
    · exact ⟨z.1, z.2.1, hq _ _ _ z.2.2⟩
    · exact z.elim
theorem ai_rng2 {a b : Expr} (hm : X.mg "range" = none) (ha : AA X E [a, b] wl) (hg : Gl X "range" := by rfl) (hs : starEach [a, b] X.env = [(false, eval a X.env), (false, eval b X.env)] := by rfl) (hs2 : starEach [b] X.env = [(false, eval b X.env)] := by rfl) :
    AI X E tg (.Call (.Name "range" p) [a, b] [] pos) (iRng2 wl) := by
  refine ⟨PI.imp (pi_range2 hg hm ha.run hs hs2) fun σ H R ⟨F, ρ, g, S, Rr, q⟩ => ?_, fun ρ h Q Q' X X' hq hx q => ha.mo _ _ _ _ _ _ (fun ds h1 z => ?_) hx q⟩
  · refine ⟨F, ρ, g, S, Rr, ha.mo _ _ _ _ _ _ (fun ds h1 z => ?_) (fun _ _ z => z) q⟩
    intro F1 H1 vs e1 S1 rs
    split at z
    · cases rs with
      | cons r rs =>
        cases r
        cases rs with
        | cons r rs => cases rs; cases r; exact ⟨_, _, rfl, z.1, z.2 F1 H1 _ e1 S1 ItD.rng⟩
    · exact z.elim
  · split at z
    · exact ⟨z.1, hq _ _ _ z.2⟩
    · exact z.elim
end
end DL
namespace DL
open PySem PySem.Spec L2

def wipeD (ρ : EnvD) : List Nat → EnvD
  | [] => ρ
  | v :: vs => (wipeD ρ vs).set v none
theorem EnvR.wipe {K : PySem.W.Frag} {F : Hp} {ρ : EnvD} {σ : L2.St} (r : EnvR K F ρ σ) : ∀ vs : List Nat, EnvR K F (wipeD ρ vs) (L2.wipe σ vs)
  | [] => r
  | v :: vs => by
    have ih := EnvR.wipe r vs
    refine ⟨by simp [wipeD, L2.wipe, ih.1], fun i d e => ?_⟩
    show ∃ x, ((L2.wipe σ vs).set v none)[i]? = some (some x) ∧ _
    have e : ((wipeD ρ vs).set v none)[i]? = some (some d) := e
    by_cases c : v = i
    · subst c
      by_cases l : v < (wipeD ρ vs).length
      · rw [List.getElem?_set_self l] at e; cases e
      · rw [List.getElem?_eq_none (by simpa using l)] at e; cases e
    · rw [List.getElem?_set_ne c] at e ⊢
      exact ih.2 i d e
def rm (h : AH) (p : Addr) : AH := fun b => if b = p then none else h b
@[simp] theorem rm_up {h : AH} {p : Addr} {o : AO} : rm (up h p o) p = rm h p := by funext b; unfold rm up; split <;> rfl
theorem rm_none {h : AH} {p : Addr} (e : h p = none) : rm h p = h := by
  funext b; unfold rm; split
  · rename_i c; rw [c, e]
  · rfl
theorem rm_sub {h : AH} {p : Addr} : Sub (rm h p) h := fun a o e => by
  unfold rm at e; split at e
  · cases e
  · exact e
theorem rm_same {h : AH} {p : Addr} : rm h p p = none := by simp [rm]

/-- a target of a comprehension: names alone -/
structure GW (K : PySem.W.Frag) (vs : List Nat) (g : WG) (gv : TG) : Prop where
  to : ∀ {F h H d v ρ σ} {QD : EnvD → AH → Prop} {Q : L2.St → Hp → Prop}, Sim K F h H → Rep K F d v → EnvR K F ρ σ → g d ρ h QD (fun _ _ => False) →
    (∀ ρ2 σ2, EnvR K F ρ2 σ2 → QD ρ2 h → L2.wipe σ2 vs = L2.wipe σ vs → Q σ2 H) → gv v σ H Q
  mo : MoG g
theorem wipe_set {σ : L2.St} {i : Nat} {x : Option V} : ∀ {vs : List Nat}, i ∈ vs → L2.wipe (σ.set i x) vs = L2.wipe σ vs
  | v :: vs, h => by
    show (L2.wipe (σ.set i x) vs).set v none = (L2.wipe σ vs).set v none
    by_cases c : i ∈ vs
    · rw [wipe_set c]
    · have e : v = i := by rcases List.mem_cons.mp h with e | e; exact e.symm; exact absurd e c
      subst e
      have : ∀ {ws : List Nat}, L2.wipe (σ.set v x) ws = (L2.wipe σ ws).set v (if v ∈ ws then none else x) ∨ True := fun {ws} => .inr trivial
      apply List.ext_getElem?
      intro j
      by_cases ej : v = j
      · subst ej
        by_cases l : v < σ.length
        · rw [List.getElem?_set_self (by rw [L2.wipe_length, List.length_set]; exact l), List.getElem?_set_self (by rw [L2.wipe_length]; exact l)]
        · rw [List.getElem?_eq_none (by simp [L2.wipe_length]; omega), List.getElem?_eq_none (by simp [L2.wipe_length]; omega)]
      · rw [List.getElem?_set_ne ej, List.getElem?_set_ne ej]
        have q : ∀ (ws : List Nat) (a b : L2.St), (a.length = b.length) → (∀ j, v ≠ j → a[j]? = b[j]?) → ∀ j, v ≠ j → (L2.wipe a ws)[j]? = (L2.wipe b ws)[j]? := by
          intro ws
          induction ws with
          | nil => intro a b _ h j hj; exact h j hj
          | cons w ws ih =>
            intro a b hl h j hj
            show ((L2.wipe a ws).set w none)[j]? = ((L2.wipe b ws).set w none)[j]?
            by_cases c : w = j
            · subst c
              by_cases l : w < a.length
              · rw [List.getElem?_set_self (by rw [L2.wipe_length]; exact l), List.getElem?_set_self (by rw [L2.wipe_length, ← hl]; exact l)]
              · rw [List.getElem?_eq_none (by simp [L2.wipe_length]; omega), List.getElem?_eq_none (by simp [L2.wipe_length]; omega)]
            · rw [List.getElem?_set_ne c, List.getElem?_set_ne c]
              exact ih a b hl h j hj
        exact q vs _ _ (by simp) (fun j hj => by rw [List.getElem?_set_ne hj]) j ej
theorem gw_name {K : PySem.W.Frag} {vs : List Nat} {i : Nat} (hi : i ∈ vs) : GW K vs (gN i) (gName i) :=
  ⟨fun {F h H d v ρ σ QD Q} S r R q k => k _ _ (R.set r i) q (wipe_set hi), fun d ρ h Q Q' X X' hq _ q => hq _ _ q⟩
/-- i, j, .. : the names of a tuple target -/
def gsN : List Nat → WGs
  | [] => gsNil
  | i :: is => gsCons (gN i) (gsN is)
def gvN : List Nat → TGs
  | [] => L2.gNil
  | i :: is => L2.gCons (gName i) (gvN is)
theorem gw_names {K : PySem.W.Frag} {vs : List Nat} : ∀ {is : List Nat}, (∀ i ∈ is, i ∈ vs) → ∀ {F h H ds us ρ σ} {QD : EnvD → AH → Prop} {Q : L2.St → Hp → Prop}, Sim K F h H → Reps K F ds us → EnvR K F ρ σ → gsN is ds ρ h QD (fun _ _ => False) →
    (∀ ρ2 σ2, EnvR K F ρ2 σ2 → QD ρ2 h → L2.wipe σ2 vs = L2.wipe σ vs → Q σ2 H) → gvN is us σ H Q
  | [], _, F, h, H, ds, us, ρ, σ, QD, Q, S, r, R, q, k => by
    obtain ⟨rfl, q⟩ := q
    cases r
    exact ⟨rfl, k ρ σ R q rfl⟩
  | i :: is, hi, F, h, H, ds, us, ρ, σ, QD, Q, S, r, R, q, k => by
    obtain ⟨d, ds', rfl, q⟩ := q
    cases r with
    | cons r rr =>
      refine ⟨_, _, rfl, ?_⟩
      refine gw_names (is := is) (fun j hj => hi j (List.mem_cons_of_mem _ hj)) S rr (R.set r i) q fun ρ2 σ2 R2 q2 e2 => k ρ2 σ2 R2 q2 (e2.trans (wipe_set (hi i (List.mem_cons_self ..))))
theorem mo_gsN : ∀ is : List Nat, MoGs (gsN is)
  | [] => fun d ρ h Q Q' X X' hq _ q => ⟨q.1, hq _ _ q.2⟩
  | i :: is => fun d ρ h Q Q' X X' hq hx ⟨x, xs, e, q⟩ => ⟨x, xs, e, mo_gsN is _ _ _ _ _ _ _ hq hx q⟩
theorem mo_gT {n : Nat} {r : WGs} (m : MoGs r) : MoG (gT n r) := fun d ρ h Q Q' X X' hq hx ⟨xs, e, l, q⟩ => ⟨xs, e, l, m _ _ _ _ _ _ _ hq hx q⟩
theorem gw_tup {K : PySem.W.Frag} {vs : List Nat} {is : List Nat} (hi : ∀ i ∈ is, i ∈ vs) : GW K vs (gT is.length (gsN is)) (gTup K is.length (gvN is)) := by
  refine ⟨fun {F h H d v ρ σ QD Q} S r R q k => ?_, mo_gT (mo_gsN is)⟩
  obtain ⟨xs, rfl, l, q⟩ := q
  cases r with
  | @tup a _ us hs rs => exact ⟨a, us, rfl, sqt_of S.fz hs, by rw [← rs.length]; exact l, gw_names hi S rs R q k⟩

def compD (st : AH → Prop) (g : WG) (tt : WT) (te : WE) (vs : List Nat) (ρ : EnvD) (p : Addr) : List D → AH → (AH → Prop) → Prop
  | [], h, Q => st h ∧ Q h
  | x :: r, h, Q => st h ∧ g x (wipeD ρ vs) h (fun ρ2 h2 => tt ρ2 h2 (fun b h3 => if b = true then te ρ2 h3 (fun y h4 => ∃ acc, h4 p = some (.lst acc) ∧ acc.length < sizeLine ∧ compD st g tt te vs ρ p r (up h4 p (.lst (acc ++ [y]))) Q) (fun _ _ => False) else compD st g tt te vs ρ p r h3 Q) (fun _ _ => False)) (fun _ _ => False)
/-- what becomes of the list that a comprehension made -/
def endL (m : Bool) (p : Addr) (Q : KD) : AH → Prop := fun h => ∃ acc, h p = some (.lst acc) ∧ if m = true then Q (.ref p) h else Q (.lst acc) (rm h p)
def wLc (m : Bool) (wi : WI) (g : WG) (tt : WT) (te : WE) (vs : List Nat) : WE := fun ρ h Q X => wi ρ h (fun xs st h1 => ∀ p, h1 p = none → compD st g tt te vs ρ p xs (up h1 p (.lst [])) (endL m p Q)) X
def wYes : WT := fun _ h Q _ => Q true h
theorem mo_yes : MoT wYes := fun ρ h Q Q' X X' hq _ q => hq _ _ q
theorem compD_mo {st : AH → Prop} {g : WG} {tt : WT} {te : WE} {vs : List Nat} {ρ : EnvD} {p : Addr} (mg : MoG g) (mt : MoT tt) (me : MoE te) {Q Q' : AH → Prop} (hq : ∀ h, Q h → Q' h) : ∀ (xs : List D) (h : AH), compD st g tt te vs ρ p xs h Q → compD st g tt te vs ρ p xs h Q'
  | [], h, q => ⟨q.1, hq _ q.2⟩
  | x :: r, h, q => ⟨q.1, mg _ _ _ _ _ _ _ (fun ρ2 h2 z => mt _ _ _ _ _ _ (fun b h3 z => by
      split at z
      · rename_i c; rw [if_pos c]; exact me _ _ _ _ _ _ (fun y h4 ⟨acc, e, l, z⟩ => ⟨acc, e, l, compD_mo mg mt me hq r _ z⟩) (fun _ _ z => z) z
      · rename_i c; rw [if_neg c]; exact compD_mo mg mt me hq r _ z) (fun _ _ z => z) z) (fun _ _ z => z) q.2⟩
theorem endL_mo {m : Bool} {p : Addr} {Q Q' : KD} (hq : ∀ d h, Q d h → Q' d h) : ∀ h, endL m p Q h → endL m p Q' h := fun h ⟨acc, e, z⟩ => ⟨acc, e, by
  split at z
  · rename_i c; rw [if_pos c]; exact hq _ _ z
  · rename_i c; rw [if_neg c]; exact hq _ _ z⟩
theorem endL_to {K : PySem.W.Frag} {F : Hp} {h : AH} {H : Hp} {m : Bool} {p : Addr} {Q : VK} (S : Sim K F h H) (q : endL m p (LQ K F Q) h) : Q (.ref p) H := by
  obtain ⟨acc, e, q⟩ := q
  split at q
  · exact q.at S (.ref p)
  · obtain ⟨f, u, hu, us, rfl, rs⟩ := S.ob _ _ e
    obtain ⟨e2, S2⟩ := S.frz e hu rm_same rm_sub
    exact q _ _ _ e2 S2 (.lst upd_same (rs.ext e2))
theorem mo_lc {m : Bool} {wi : WI} {g : WG} {tt : WT} {te : WE} {vs : List Nat} (mi : MoI wi) (mg : MoG g) (mt : MoT tt) (me : MoE te) : MoE (wLc m wi g tt te vs) := fun ρ h Q Q' X X' hq hx q =>
  mi _ _ _ _ _ _ (fun xs st h1 z p hp => compD_mo mg mt me (endL_mo hq) _ _ (z p hp)) hx q

/-- the tests of a clause -/
structure ATs (X : Cx) (E : XK) (ifs : List Expr) (w : WT) : Prop where
  run : PTs X ifs (tT X.K E w)
  mo : MoT w
theorem ats_nil {X : Cx} {E : XK} : ATs X E [] wYes := ⟨⟨fun pins s σ H Q I ⟨F, ρ, h, S, R, q⟩ => pts_nil.run pins s σ H Q I (q F H (.refl F) S)⟩, mo_yes⟩
theorem ats_one {X : Cx} {E : XK} {c : Expr} {w : WT} (h : AT X E c w) : ATs X E [c] w := ⟨pts_one h.run, h.mo⟩

section
variable {X : Cx} {E : XK} {k : Nat} {elt tg iter : Expr} {ifs : List Expr} {scope : Scope} {own : List (Str × Nat)} {pos : Pos} {wi : WI} {g : WG} {gv : TG} {tt : WT} {te : WE}
/-- the block of a comprehension: nothing is let out of it -/
abbrev Blk (X : Cx) (scope : Scope) (s : Shared) (H : Hp) (C : Addr) (cl : List (Str × Addr)) (fp : List Addr) : Cx := X.blk s H scope (compEnvC scope cl C X.env) fp
theorem rel_free {sc : Scope} {x : Str} : ∀ {ns : List (Str × NameKind)}, ns.lookup x = some .free → (ns.map fun (n, k) => if (k == .free && sc.kind == .function && sc.names.lookup n == some .cell) then (n, NameKind.cell) else (n, k)).lookup x = some .cell ∨
    (ns.map fun (n, k) => if (k == .free && sc.kind == .function && sc.names.lookup n == some .cell) then (n, NameKind.cell) else (n, k)).lookup x = some .free
  | [], e => by simp at e
  | (y, j) :: ns, e => by
    have ih := @rel_free sc x ns
    rw [List.map_cons]
    dsimp only
    cases q : x == y with
    | true =>
      simp only [List.lookup_cons, q] at e
      cases e
      split
      · left; simp only [List.lookup_cons, q]
      · right; simp only [List.lookup_cons, q]
    | false =>
      simp only [List.lookup_cons, q] at e
      split <;> (simp only [List.lookup_cons, q]; exact ih e)
theorem blk_in {N : List Str} {sc scope : Scope} {s : Shared} {H : Hp} {C : Addr} {cl : List (Str × Addr)} {fp : List Addr} {own : List (Str × Nat)} (ok : BlkOk N sc scope own) : BlkOk N (Blk X sc s H C cl fp).env.scope scope own := by
  refine ⟨ok.kind, ok.uniq, ok.ix, fun y hy e => ?_, ok.own⟩
  show (relS sc X.env.scope).names.lookup y.1 = some .cell ∨ (relS sc X.env.scope).names.lookup y.1 = some .free
  rcases ok.free y hy e with q | q
  · exact .inl (lookup_relS_keep (by decide) q)
  · exact rel_free q
theorem cg_blk (c : Cg gz X E k) (s : Shared) (H : Hp) (C : Addr) (cl : List (Str × Addr)) (fp : List Addr) (po : PassesOwn (model X.prog X.w) X.A (compEnvC scope cl C X.env) (fun _ _ => False) := PassesOwn.never) : Cg gz (Blk X scope s H C cl fp) E0 k :=
  ⟨c.room, c.gd, c.calm, c.nd, passL, po⟩
theorem to_lc {m : Bool} (mi : MoI wi) (mg : MoG g) (mt : MoT tt) (me : MoE te) (gw : GW X.K (own.map (·.2)) g gv) {σ : L2.St} {H : Hp} {Q : VK} (h : tE X.K E (wLc m wi g tt te (own.map (·.2))) σ H Q) :
    tLc (tI X.K E wi) gv (tT X.K E0 tt) (tE X.K E0 te) (own.map (·.2)) σ H Q := by
  obtain ⟨F, ρ, h0, S, R, q⟩ := h
  refine ⟨F, ρ, h0, S, R, mi _ _ _ _ _ _ (fun xs st h1 z => ?_) (fun _ _ z => z) q⟩
  intro F1 H1 J e1 S1 it D hD
  obtain ⟨f1, g1⟩ := S1.free hD
  have z := z D g1
  refine ⟨fun i n H => n = xs.length - i ∧ i ≤ xs.length ∧ ∃ F2 h2, Ext F1 F2 ∧ Sim X.K F2 h2 H ∧ compD st g tt te (own.map (·.2)) ρ D (xs.drop i) h2 (endL m D (LQ X.K F2 Q)),
    ⟨xs.length, by simp, Nat.zero_le _, F1, _, .refl _, S1.newM hD (o := .lst []) ⟨[], rfl, .nil⟩, compD_mo mg mt me (endL_mo fun _ _ z => LQ.ext e1 z) _ _ (by simpa using z)⟩, ?_⟩
  rintro i n H2 ⟨rfl, hi, F2, h2, e2, S2, z2⟩
  by_cases lt : i < xs.length
  · rw [List.drop_eq_getElem_cons lt] at z2
    obtain ⟨hst, z2⟩ := z2
    refine .inr ⟨it.go e2 S2 hst lt, fun H' => ∃ F3 h3, Ext F1 F3 ∧ Sim X.K F3 h3 H' ∧ compD st g tt te (own.map (·.2)) ρ D (xs.drop (i + 1)) h3 (endL m D (LQ X.K F3 Q)), fun H' p => ⟨xs.length - (i + 1), by omega, rfl, lt, p⟩, fun x H' y => ?_⟩
    obtain ⟨F3, e3, S3, r3⟩ := it.yld e2 S2 hst y (List.getElem?_eq_getElem lt)
    have R3 := (R.ext (e1.trans (e2.trans e3))).wipe (own.map (·.2))
    refine gw.to S3 r3 R3 z2 fun ρ4 σ4 R4 z4 ew => ⟨?_, ?_⟩
    · rw [ew]
      have : ∀ vs : List Nat, L2.wipe (L2.wipe σ vs) vs = L2.wipe σ vs := by
        intro vs
        have key : ∀ (us vs : List Nat), (∀ u ∈ us, u ∈ vs) → L2.wipe (L2.wipe σ us) vs = L2.wipe σ vs := by
          intro us
          induction us with
          | nil => intro vs _; rfl
          | cons u us ih =>
            intro vs hu
            show L2.wipe ((L2.wipe σ us).set u none) vs = _
            rw [wipe_set (hu u (List.mem_cons_self ..)), ih vs fun w hw => hu w (List.mem_cons_of_mem _ hw)]
        exact key vs vs fun _ h => h
      rw [this]
    · refine ⟨F3, ρ4, h2, S3, R4, mt _ _ _ _ _ _ (fun b h5 z5 => ?_) (fun _ _ z => z.elim) z4⟩
      intro F5 H5 e5 S5
      split at z5
      · rename_i cb
        rw [if_pos cb]
        refine ⟨F5, ρ4, h5, S5, R4.ext e5, me _ _ _ _ _ _ (fun y h6 z6 => ?_) (fun _ _ z => z.elim) z5⟩
        intro F6 H6 v6 e6 S6 r6
        obtain ⟨acc, ea, la, z6⟩ := z6
        obtain ⟨fa, u, hu, us, rfl, rs⟩ := S6.ob _ _ ea
        exact ⟨us, hu, by rw [← rs.length]; exact la, F6, _, e2.trans (e3.trans (e5.trans e6)), S6.put ea (o := .lst (acc ++ [y])) ⟨_, rfl, rs.append (.cons r6 .nil)⟩, compD_mo mg mt me (endL_mo fun _ _ z => LQ.ext (e3.trans (e5.trans e6)) z) _ _ z6⟩
      · rename_i cb
        rw [if_neg cb]
        exact ⟨F5, _, e2.trans (e3.trans e5), S5, compD_mo mg mt me (endL_mo fun _ _ z => LQ.ext (e3.trans e5) z) _ _ z5⟩
  · have e : i = xs.length := by omega
    subst e
    rw [List.drop_length] at z2
    exact .inl ⟨it.stop e2 S2 z2.1 rfl, endL_to S2 z2.2⟩
theorem ae_lc (m : Bool) (c : Cg gz X E k) (hi : AI X E tg iter wi) (ok : BlkOk X.N X.env.scope scope own) (gw : GW X.K (own.map (·.2)) g gv)
    (hg : ∀ (s : Shared) (H : Hp) (C : Addr) (cl : List (Str × Addr)) (fp : List Addr), PG (Blk X scope s H C cl fp) tg gv)
    (ht : ∀ (s : Shared) (H : Hp) (C : Addr) (cl : List (Str × Addr)) (fp : List Addr), Cg gz (Blk X scope s H C cl fp) E0 k → ATs (Blk X scope s H C cl fp) E0 ifs tt)
    (he : ∀ (s : Shared) (H : Hp) (C : Addr) (cl : List (Str × Addr)) (fp : List Addr), Cg gz (Blk X scope s H C cl fp) E0 k → AE (Blk X scope s H C cl fp) E0 elt te)
    (hs : ∀ x, foldedSetIterable iter X.env x = pure x := by intro _; rfl) :
    AE X E (.ListComp elt [⟨tg, iter, ifs, 0⟩] scope pos) (wLc m wi g tt te (own.map (·.2))) :=
  have mg := gw.mo
  have mt := (ht X.s_0 X.H_0 0 [] [] (cg_blk c _ _ _ _ _)).mo
  have me := (he X.s_0 X.H_0 0 [] [] (cg_blk c _ _ _ _ _)).mo
  ⟨PE.imp (pe_lc (tt := tT X.K E0 tt) (te := tE X.K E0 te) c.calm c.nd hi.run ok hg (fun s H C cl fp => (ht s H C cl fp (cg_blk c s H C cl fp)).run) (fun s H C cl fp => (he s H C cl fp (cg_blk c s H C cl fp)).run) hs) fun σ H Q h => to_lc hi.mo mg mt me gw h, mo_lc hi.mo mg mt me⟩
theorem as_setLc (m : Bool) (i : Nat) {y : Str} {py spos : Pos} (c : Cg gz X E k) (hi : AI X E tg iter wi) (ok : BlkOk X.N X.env.scope scope own) (gw : GW X.K (own.map (·.2)) g gv)
    (hg : ∀ (s : Shared) (H : Hp) (C : Addr) (cl : List (Str × Addr)) (fp : List Addr), PG (Blk X scope s H C cl fp) tg gv)
    (ht : ∀ (s : Shared) (H : Hp) (C : Addr) (cl : List (Str × Addr)) (fp : List Addr), Cg gz (Blk X scope s H C cl fp) E0 k → ATs (Blk X scope s H C cl fp) E0 ifs tt)
    (he : ∀ (s : Shared) (H : Hp) (C : Addr) (cl : List (Str × Addr)) (fp : List Addr), Cg gz (Blk X scope s H C cl fp) E0 k → AE (Blk X scope s H C cl fp) E0 elt te)
    (hy : X.N[i]? = some y := by rfl) (hyl : X.env.scope.names.lookup y = some .local := by rfl)
    (hsw : swapsWith (.ListComp elt [⟨tg, iter, ifs, 0⟩] scope pos) (some (.Name y py)) spos.line X.env = pure true := by exact sw_true rfl rfl rfl (by decide +kernel))
    (hs : ∀ x, foldedSetIterable iter X.env x = pure x := by intro _; rfl) :
    AS X E (.Assign [.Name y py] (.ListComp elt [⟨tg, iter, ifs, 0⟩] scope pos) spos) (wAsg (wLc m wi g tt te (own.map (·.2))) (gN i)) := by
  have mg := gw.mo
  have mt := (ht X.s_0 X.H_0 0 [] [] (cg_blk c _ _ _ _ _)).mo
  have me := (he X.s_0 X.H_0 0 [] [] (cg_blk c _ _ _ _ _)).mo
  have P := ps_setLc (tt := tT X.K E0 tt) (te := tE X.K E0 te) (spos := spos) (pos := pos) (i := i) c.calm c.nd hy hyl hsw hi.run ok hg (fun s H C cl fp => (ht s H C cl fp (cg_blk c s H C cl fp)).run) (fun s H C cl fp => (he s H C cl fp (cg_blk c s H C cl fp)).run) hs
  have M := mo_lc (m := m) (vs := own.map (·.2)) hi.mo mg mt me
  refine ⟨PS.imp P fun D σ H h => ?_, mo_asg M fun d ρ h Q Q' X X' hq _ q => hq _ _ q⟩
  obtain ⟨F, ρ, h0, S, R, q⟩ := h
  refine to_lc (m := m) hi.mo mg mt me gw ⟨F, ρ, h0, S, R, M _ _ _ _ _ _ (fun x h1 z => ?_) (fun _ _ z => z) q⟩
  intro F1 H1 v e1 S1 r
  exact z F1 H1 _ e1 S1 ((R.ext e1).set r i)
end
end DL
namespace DL
open PySem PySem.Spec L2 C8

/-! ### subscripts -/
def dIx (x y : D) (h : AH) (Q : KD) : Prop := match y with
  | .int i => ∃ xs d, seqOf h x = some xs ∧ atI xs i = some d ∧ Q d h
  | _ => False
theorem Reps.atI {K : PySem.W.Frag} {F : Hp} {xs : List D} {vs : List V} {i : Int} {d : D} (r : Reps K F xs vs) (e : L2.atI xs i = some d) : ∃ v, L2.atI vs i = some v ∧ Rep K F d v := by
  unfold L2.atI at *
  rw [← r.length]
  cases q : ixN xs.length i with
  | none => rw [q] at e; cases e
  | some j =>
    rw [q] at e
    exact r.get (i := j) e
def rIxD2 (K : PySem.W.Frag) : R2 := fun x y H Q => rIxL K x y H Q ∨ rIxT K x y H Q
theorem ix_two {X : Cx} : IxR X (rIxD2 X.K) := IxR.or ix_list ix_tup
theorem dIx_ok {K : PySem.W.Frag} : OpD K (rIxD2 K) dIx where
  to := by
    intro F h H x y vx vy Q S rx ry q
    unfold dIx at q
    split at q
    · obtain ⟨xs, d, e1, e2, q⟩ := q
      cases ry
      obtain ⟨a, vs, rfl, hs, rs⟩ := S.seqOf rx e1
      obtain ⟨v, hv, rv⟩ := rs.atI e2
      rcases hs with hs | hs
      · exact .inl ⟨a, vs, _, v, rfl, rfl, hs, hv, q.at S rv⟩
      · exact .inr ⟨a, vs, _, v, rfl, rfl, hs, hv, q.at S rv⟩
    · exact q.elim
  mo := by
    intro x y h Q Q' hq q
    unfold dIx at *
    split at q
    · obtain ⟨xs, d, e1, e2, q⟩ := q
      exact ⟨xs, d, e1, e2, hq _ _ q⟩
    · exact q.elim
section
variable {X : Cx} {E : XK} {k : Nat} {a b e o i : Expr} {es : List Expr} {wa wb wo wi : WE} {wl : WA} {pos : Pos}
theorem ae_ix (ha : AE X E a wa) (hb : AE X E b wb) (hs : PlainIx b := by exact fun _ _ => rfl) : AE X E (.Subscript a b pos) (wOp dIx wa wb) :=
  ⟨PE.imp (pe_ix ix_two ha.run hb.run hs) fun σ H Q h => two dIx_ok ha hb h, mo_op (dIx_ok (K := X.K)).mo ha.mo hb.mo⟩

/-! ### slices -/
abbrev WO := EnvD → AH → (Option Int → AH → Prop) → KX → Prop
def woNone : WO := fun _ h Q _ => Q none h
def woSome (a : WE) : WO := fun ρ h Q X => a ρ h (fun x h1 => match x with
  | .int i => Q (some i) h1
  | _ => False) X
def MoO (w : WO) : Prop := ∀ ρ h Q Q' X X', (∀ d h, Q d h → Q' d h) → (∀ x h, X x h → X' x h) → w ρ h Q X → w ρ h Q' X'
def LO (K : PySem.W.Frag) (F : Hp) (Q : Option Int → Hp → Prop) : Option Int → AH → Prop := fun b h' => ∀ F' H', Ext F F' → Sim K F' h' H' → Q b H'
structure AO_ (X : Cx) (E : XK) (e : Option Expr) (w : WO) : Prop where
  run : PO X e (fun σ H Q => ∃ F ρ h, Sim X.K F h H ∧ EnvR X.K F ρ σ ∧ w ρ h (LO X.K F Q) (LX X.K F E))
  mo : MoO w
theorem ao_none : AO_ X E none woNone := by
  refine ⟨⟨fun pins s σ H Q I h => ?_⟩, fun ρ h Q Q' X X' hq _ q => hq _ _ q⟩
  obtain ⟨F, ρ, h, S, R, q⟩ := h
  exact po_none.run pins s σ H Q I (q F H (.refl F) S)
theorem ao_some (ha : AE X E a wa) : AO_ X E (some a) (woSome wa) := by
  refine ⟨⟨fun pins s σ H Q I h => ?_⟩, fun ρ h Q Q' X X' hq hx q => ha.mo _ _ _ _ _ _ (fun x h1 z => ?_) hx q⟩
  · obtain ⟨F, ρ, h, S, R, q⟩ := h
    refine (po_some ha.run).run pins s σ H Q I ⟨F, ρ, h, S, R, ha.mo _ _ _ _ _ _ (fun x h1 z => ?_) (fun _ _ z => z) q⟩
    intro F1 H1 v e1 S1 r
    split at z
    · cases r; exact ⟨_, rfl, z F1 H1 e1 S1⟩
    · exact z.elim
  · split at z
    · exact hq _ _ z
    · exact z.elim
def cutD {α : Type} (xs : List α) (lo hi : Option Int) : List α := (xs.drop (HT.sIx xs.length 0 lo)).take (HT.sIx xs.length xs.length hi - HT.sIx xs.length 0 lo)
theorem Reps.cut {K : PySem.W.Frag} {F : Hp} {xs : List D} {vs : List V} (r : Reps K F xs vs) (lo hi : Option Int) : Reps K F (cutD xs lo hi) (cutV vs lo hi) := by
  unfold cutD cutV
  rw [r.length]
  exact (r.drop _).take _
def dSl (m : Bool) (x : D) (lo hi : Option Int) (h : AH) (Q : KD) : Prop := match x with
  | .tup xs => Q (.tup (cutD xs lo hi)) h
  | .str s => s.length ≤ sizeLine ∧ Q (.str (Txt.slice s lo hi)) h
  | .ref a => match h a with
    | some (.lst xs) => newL m (cutD xs lo hi) h Q
    | some (.lck xs) => newL m (cutD xs lo hi) h Q
    | _ => False
  | .lst xs => newL m (cutD xs lo hi) h Q
  | .lk xs => newL m (cutD xs lo hi) h Q
  | _ => False
theorem dSl_mo {m : Bool} {x : D} {lo hi : Option Int} {h : AH} {Q Q' : KD} (hq : ∀ d h, Q d h → Q' d h) (q : dSl m x lo hi h Q) : dSl m x lo hi h Q' := by
  unfold dSl at *
  split at q
  · exact hq _ _ q
  · exact ⟨q.1, hq _ _ q.2⟩
  · split at q
    · exact newL_mo hq q
    · exact newL_mo hq q
    · exact q.elim
  · exact newL_mo hq q
  · exact newL_mo hq q
  · exact q.elim
def wSl (m : Bool) (a : WE) (lo hi : WO) : WE := fun ρ h Q X => a ρ h (fun x h1 => lo ρ h1 (fun l h2 => hi ρ h2 (fun u h3 => dSl m x l u h3 Q) X) X) X
def rSlD (K : PySem.W.Frag) : V → Option Int → Option Int → Hp → VK → Prop := fun x lo hi H Q => rSlA K x lo hi H Q ∨ (rSlX x lo hi H Q ∨ rSlL K x lo hi H Q)
theorem sl_all : SlR X (rSlD X.K) := SlR.or sl_tupA (SlR.or sl_txt sl_list)
theorem cut_whole {α : Type} {xs : List α} {lo hi : Option Int} (h : HT.sIx xs.length 0 lo = 0 ∧ HT.sIx xs.length xs.length hi = xs.length) : cutD xs lo hi = xs := by
  unfold cutD; rw [h.1, h.2]; simp
theorem dSl_to {K : PySem.W.Frag} {F : Hp} {h : AH} {H : Hp} {m : Bool} {x : D} {v : V} {lo hi : Option Int} {Q : VK} (S : Sim K F h H) (r : Rep K F x v) (q : dSl m x lo hi h (LQ K F Q)) : rSlD K v lo hi H Q := by
  unfold dSl at q
  split at q
  · cases r with
    | @tup a xs vs hs rs =>
      refine .inl ⟨a, vs, rfl, sqt_of S.fz hs, fun w => ?_, fun _ => S.newT (rs.cut lo hi) q⟩
      rw [cut_whole (by rw [rs.length]; exact w)] at q
      exact q.at S (.tup hs rs)
  · cases r; exact .inr (.inl ⟨_, rfl, q.1, q.2.at S (.str _)⟩)
  · rename_i a
    cases r
    split at q
    · rename_i xs e
      obtain ⟨_, u, hu, vs, rfl, rs⟩ := S.ob _ _ e
      exact .inr (.inr ⟨a, vs, rfl, .of hu, S.newL (rs.cut lo hi) q⟩)
    · rename_i xs e
      obtain ⟨_, u, hu, o, vs, rfl, rs⟩ := S.ob _ _ e
      exact .inr (.inr ⟨a, vs, rfl, .inl (.inr ⟨o, hu⟩), S.newL (rs.cut lo hi) q⟩)
    · exact q.elim
  · cases r with
    | @lst a xs vs hs rs => exact .inr (.inr ⟨a, vs, rfl, .of (S.fz _ _ hs), S.newL (rs.cut lo hi) q⟩)
  · cases r with
    | @lk a xs vs hs rs => exact .inr (.inr ⟨a, vs, rfl, Ext.sql S.fz hs, S.newL (rs.cut lo hi) q⟩)
  · exact q.elim
theorem ae_sl (m : Bool) {lo hi : Option Expr} {wlo whi : WO} {p2 : Pos} (ha : AE X E a wa) (hl : AO_ X E lo wlo) (hh : AO_ X E hi whi) : AE X E (.Subscript a (.Slice lo hi none p2) pos) (wSl m wa wlo whi) := by
  refine ⟨PE.imp (pe_slice sl_all ha.run hl.run hh.run) fun σ H Q ⟨F, ρ, g, S, R, q⟩ => ?_, fun ρ h Q Q' X X' hq hx q => ha.mo _ _ _ _ _ _ (fun x h1 z => hl.mo _ _ _ _ _ _ (fun l h2 z => hh.mo _ _ _ _ _ _ (fun u h3 z => dSl_mo hq z) hx z) hx z) hx q⟩
  refine ⟨F, ρ, g, S, R, ha.mo _ _ _ _ _ _ (fun x h1 z => ?_) (fun _ _ z => z) q⟩
  intro F1 H1 v e1 S1 r
  refine ⟨F1, ρ, h1, S1, R.ext e1, hl.mo _ _ _ _ _ _ (fun l h2 z => ?_) (fun _ _ z => LX.ext e1 z) z⟩
  intro F2 H2 e2 S2
  refine ⟨F2, ρ, h2, S2, R.ext (e1.trans e2), hh.mo _ _ _ _ _ _ (fun u h3 z => ?_) (fun _ _ z => LX.ext (e1.trans e2) z) z⟩
  intro F3 H3 e3 S3
  exact dSl_to S3 (r.ext (e2.trans e3)) (dSl_mo (fun _ _ z => LQ.ext (e1.trans (e2.trans e3)) z) z)

/-! ### x[i] = v, of a list -/
def gSubL (wo wi : WE) : WG := fun d ρ h Q X => wo ρ h (fun o h1 => wi ρ h1 (fun i h2 => ∃ a xs k j, o = .ref a ∧ i = .int k ∧ h2 a = some (.lst xs) ∧ ixN xs.length k = some j ∧ Q ρ (up h2 a (.lst (xs.set j d)))) X) X
theorem ag_subL (ho : AE X E o wo) (hi : AE X E i wi) (ha : ∀ v, assign (.Subscript o i pos) X.env v = (do
      let ov ← holding [v] (eval o X.env)
      let iv ← holding [v, ov] (eval i X.env)
      standAt pos
      holding [v, ov, iv] (setItem ov iv v)
      release [v, ov, iv] []) := by intro _; rfl) : AG X E (.Subscript o i pos) (gSubL wo wi) := by
  refine ⟨PG.imp (pg_sub ho.run hi.run set_list ha) fun v σ H Q ⟨F, ρ, g, d, S, R, r, q⟩ => ?_, fun d ρ h Q Q' X X' hq hx q => ho.mo _ _ _ _ _ _ (fun x h1 z => hi.mo _ _ _ _ _ _ (fun y h2 ⟨a, xs, k, j, e1, e2, e3, e4, z⟩ => ⟨a, xs, k, j, e1, e2, e3, e4, hq _ _ z⟩) hx z) hx q⟩
  refine ⟨F, ρ, g, S, R, ho.mo _ _ _ _ _ _ (fun x h1 z => ?_) (fun _ _ z => z) q⟩
  intro F1 H1 vo e1 S1 ro
  refine ⟨F1, ρ, h1, S1, R.ext e1, hi.mo _ _ _ _ _ _ (fun y h2 z => ?_) (fun _ _ z => LX.ext e1 z) z⟩
  intro F2 H2 vi e2 S2 ri
  obtain ⟨a, xs, k, j, rfl, rfl, ea, ej, z⟩ := z
  cases ri
  have ro2 := ro.ext e2
  cases ro2
  obtain ⟨_, u, hu, vs, rfl, rs⟩ := S2.ob _ _ ea
  exact ⟨a, vs, k, j, rfl, rfl, hu, by rw [← rs.length]; exact ej, z F2 _ σ (e1.trans e2) (S2.put ea (o := .lst (xs.set j d)) ⟨_, rfl, rs.set (r.ext (e1.trans e2)) j⟩) (R.ext (e1.trans e2))⟩

/-! ### methods of a list that changes it -/
def wMeth (f : D → List D → AH → KD → Prop) (wo : WE) (wl : WA) : WE := fun ρ h Q X => wo ρ h (fun x h1 => wl ρ h1 (fun xs h2 => f x xs h2 Q) X) X
structure MeD (K : PySem.W.Frag) (T : String) (rv : V → List V → Hp → VK → Prop) (f : D → List D → AH → KD → Prop) (ty : D → AH → Prop) : Prop where
  to : ∀ {F h H x xs vx vs} {Q : VK}, Sim K F h H → Rep K F x vx → Reps K F xs vs → f x xs h (LQ K F Q) → rv vx vs H Q
  ty : ∀ {F h H x vx}, Sim K F h H → Rep K F x vx → ty x h → tyV K T vx H
  mo : ∀ {x xs h} {Q Q' : KD}, (∀ d h, Q d h → Q' d h) → f x xs h Q → f x xs h Q'
def wMethT (ty : D → AH → Prop) (f : D → List D → AH → KD → Prop) (wo : WE) (wl : WA) : WE := fun ρ h Q X => wo ρ h (fun x h1 => ty x h1 ∧ wl ρ h1 (fun xs h2 => f x xs h2 Q) X) X
theorem ae_bm {T id : String} {name : Str} {rv : V → List V → Hp → VK → Prop} {f : D → List D → AH → KD → Prop} {ty : D → AH → Prop} {apos cpos : Pos} (M : MeD X.K T rv f ty) (hm : MtR X id rv)
    (pa : PlainAttrs T) (slot : Slot T name id) (hty : typeOf (.builtin id) = pure (.type "method_descriptor")) (ho : AE X E o wo) (ha : AA X E (e :: es) wl)
    (hbase : attributeBase o name X.env (eval o X.env) = eval o X.env := by rfl)
    (hfew : ((backTo cpos (starEach (e :: es) X.env)).all (fun x => !x.1) && (backToKw cpos (keywordEach [] X.env)).all (fun x => x.1.isSome)
      && decide ((e :: es).length + ([] : List Keyword).length + (if ([] : List Keyword).isEmpty then 0 else 1) < 30)) = true := by rfl)
    (hline : (apos.endLine == cpos.line) = true := by rfl) (hs : starEach (e :: es) X.env = (false, eval e X.env) :: starEach es X.env := by rfl) (hplain : (backTo cpos (starEach es X.env)).any (·.1) = false := by rfl) :
    AE X E (.Call (.Attribute o name apos) (e :: es) [] cpos) (wMethT ty f wo wl) := by
  refine ⟨PE.imp (pe_bm pa slot hty hm ho.run ha.run hbase hfew hline hs hplain) fun σ H Q ⟨F, ρ, g, S, R, q⟩ => ?_, fun ρ h Q Q' X X' hq hx q => ho.mo _ _ _ _ _ _ (fun x h1 z => ⟨z.1, ha.mo _ _ _ _ _ _ (fun xs h2 z => M.mo hq z) hx z.2⟩) hx q⟩
  refine ⟨F, ρ, g, S, R, ho.mo _ _ _ _ _ _ (fun x h1 z => ?_) (fun _ _ z => z) q⟩
  intro F1 H1 vx e1 S1 rx
  refine ⟨M.ty S1 rx z.1, F1, ρ, h1, S1, R.ext e1, ha.mo _ _ _ _ _ _ (fun xs h2 z => ?_) (fun _ _ z => LX.ext e1 z) z.2⟩
  intro F2 H2 vs e2 S2 rs
  exact M.to S2 (rx.ext e2) rs (M.mo (fun _ _ z => LQ.ext (e1.trans e2) z) z)
def isL (x : D) (h : AH) : Prop := ∃ xs, lstOf h x = some xs
theorem isL_ty {K : PySem.W.Frag} {F : Hp} {h : AH} {H : Hp} {x : D} {v : V} (S : Sim K F h H) (r : Rep K F x v) (t : isL x h) : tyV K "list" v H := by
  obtain ⟨xs, e⟩ := t
  obtain ⟨a, vs, rfl, ha, _⟩ := S.lstOf r e
  exact .inl ⟨rfl, vs, .of ha⟩
def dAppend (x : D) (ys : List D) (h : AH) (Q : KD) : Prop := ∃ a xs y, x = .ref a ∧ ys = [y] ∧ h a = some (.lst xs) ∧ xs.length < sizeLine ∧ Q .non (up h a (.lst (xs ++ [y])))
theorem dAppend_ok {K : PySem.W.Frag} : MeD K "list" rAppend dAppend isL where
  ty := isL_ty
  mo := fun hq ⟨a, xs, y, e1, e2, e3, e4, q⟩ => ⟨a, xs, y, e1, e2, e3, e4, hq _ _ q⟩
  to := by
    rintro F h H x ys vx vs Q S rx rs ⟨a, xs, y, rfl, rfl, e, l, q⟩
    cases rx
    cases rs with
    | cons r rs =>
      cases rs
      obtain ⟨_, u, hu, us, rfl, ru⟩ := S.ob _ _ e
      exact ⟨a, us, _, rfl, rfl, hu, by rw [← ru.length]; exact l, q F _ _ (.refl F) (S.put e (o := .lst (xs ++ [y])) ⟨_, rfl, ru.append (.cons r .nil)⟩) .non⟩
theorem ae_append {apos cpos : Pos} (ho : AE X E o wo) (ha : AA X E [e] wl) (hbase : attributeBase o "append" X.env (eval o X.env) = eval o X.env := by rfl)
    (hfew : ((backTo cpos (starEach [e] X.env)).all (fun x => !x.1) && (backToKw cpos (keywordEach [] X.env)).all (fun x => x.1.isSome) && decide ([e].length + ([] : List Keyword).length + (if ([] : List Keyword).isEmpty then 0 else 1) < 30)) = true := by rfl)
    (hline : (apos.endLine == cpos.line) = true := by rfl) (hs : starEach [e] X.env = (false, eval e X.env) :: starEach [] X.env := by rfl) (hplain : (backTo cpos (starEach [] X.env)).any (·.1) = false := by rfl) :
    AE X E (.Call (.Attribute o "append" apos) [e] [] cpos) (wMethT isL dAppend wo wl) :=
  ae_bm dAppend_ok mt_append PySem.F.plainAttrs_list PySem.F.slot_list_append PySem.F.type_list_append ho ha hbase hfew hline hs hplain
def dInsert (x : D) (ys : List D) (h : AH) (Q : KD) : Prop := ∃ a xs i y, x = .ref a ∧ ys = [.int i, y] ∧ h a = some (.lst xs) ∧ xs.length < sizeLine ∧ 0 ≤ i ∧ i < 2 ^ 62 ∧ Q .non (up h a (.lst (xs.take i.toNat ++ [y] ++ xs.drop i.toNat)))
def dExtend (x : D) (ys : List D) (h : AH) (Q : KD) : Prop := ∃ a xs y zs, x = .ref a ∧ ys = [y] ∧ h a = some (.lst xs) ∧ lstOf h y = some zs ∧ xs.length + zs.length ≤ sizeLine ∧ Q .non (up h a (.lst (xs ++ zs)))
theorem dExtend_ok {K : PySem.W.Frag} : MeD K "list" rExtend dExtend isL where
  ty := isL_ty
  mo := fun hq ⟨a, xs, y, zs, e1, e2, e3, e4, e5, q⟩ => ⟨a, xs, y, zs, e1, e2, e3, e4, e5, hq _ _ q⟩
  to := by
    rintro F h H x ys vx vs Q S rx rs ⟨a, xs, y, zs, rfl, rfl, e, ez, l, q⟩
    cases rx
    cases rs with
    | cons r rs =>
      cases rs
      obtain ⟨_, u, hu, us, rfl, ru⟩ := S.ob _ _ e
      obtain ⟨b, ws, rfl, hb, rw'⟩ := S.lstOf r ez
      exact ⟨a, b, us, ws, rfl, rfl, hu, hb, by rw [← ru.length, ← rw'.length]; exact l, q F _ _ (.refl F) (S.put e (o := .lst (xs ++ zs)) ⟨_, rfl, ru.append rw'⟩) .non⟩
theorem ae_extend {apos cpos : Pos} (ho : AE X E o wo) (ha : AA X E [e] wl) (hbase : attributeBase o "extend" X.env (eval o X.env) = eval o X.env := by rfl)
    (hfew : ((backTo cpos (starEach [e] X.env)).all (fun x => !x.1) && (backToKw cpos (keywordEach [] X.env)).all (fun x => x.1.isSome) && decide ([e].length + ([] : List Keyword).length + (if ([] : List Keyword).isEmpty then 0 else 1) < 30)) = true := by rfl)
    (hline : (apos.endLine == cpos.line) = true := by rfl) (hs : starEach [e] X.env = (false, eval e X.env) :: starEach [] X.env := by rfl) (hplain : (backTo cpos (starEach [] X.env)).any (·.1) = false := by rfl) :
    AE X E (.Call (.Attribute o "extend" apos) [e] [] cpos) (wMethT isL dExtend wo wl) :=
  ae_bm dExtend_ok mt_extend PySem.F.plainAttrs_list PySem.F.slot_list_extend PySem.F.type_list_extend ho ha hbase hfew hline hs hplain
end

/-! ### built-ins -/
def lenD (h : AH) (x : D) : Option Nat := match cur h x with
  | .tup xs => some xs.length
  | .tpl xs => some xs.length
  | .lst xs => some xs.length
  | .dK xs => some xs.length
  | .str s => some s.length
  | _ => none
def dLen (ds : List D) (h : AH) (Q : KD) : Prop := match ds with
  | [.str s] => s.length ≤ sizeLine ∧ Q (.int s.length) h
  | [x] => ∃ n, lenD h x = some n ∧ Q (.int (n : Nat)) h
  | _ => False
def dAbs (ds : List D) (h : AH) (Q : KD) : Prop := match ds with
  | [.int i] => Q (.int (if i < 0 then -i else i)) h
  | _ => False
def dInt (ds : List D) (h : AH) (Q : KD) : Prop := match ds with
  | [.int i] => Q (.int i) h
  | [.bl b] => Q (.int (if b then 1 else 0)) h
  | _ => False
def dMax2 (ds : List D) (h : AH) (Q : KD) : Prop := match ds with
  | [.int i, .int j] => Q (.int (if j > i then j else i)) h
  | _ => False
def dMin2 (ds : List D) (h : AH) (Q : KD) : Prop := match ds with
  | [.int i, .int j] => Q (.int (if j < i then j else i)) h
  | _ => False
def dSum (ds : List D) (h : AH) (Q : KD) : Prop := ∃ (x : D) (ns : List Int), ds = [x] ∧ lstOf h x = some (ns.map D.int) ∧ Q (.int ns.sum) h
def dMax1 (ds : List D) (h : AH) (Q : KD) : Prop := ∃ (x : D) (ns : List Int), ds = [x] ∧ lstOf h x = some (ns.map D.int) ∧ 0 < ns.length ∧ ∀ m, m ∈ ns → (∀ y ∈ ns, y ≤ m) → Q (.int m) h
def dMin1 (ds : List D) (h : AH) (Q : KD) : Prop := ∃ (x : D) (ns : List Int), ds = [x] ∧ lstOf h x = some (ns.map D.int) ∧ 0 < ns.length ∧ ∀ m, m ∈ ns → (∀ y ∈ ns, m ≤ y) → Q (.int m) h
def dAll (ds : List D) (h : AH) (Q : KD) : Prop := ∃ (x : D) (bs : List Bool), ds = [x] ∧ lstOf h x = some (bs.map D.bl) ∧ Q (.bl (bs.all id)) h
def dAny (ds : List D) (h : AH) (Q : KD) : Prop := ∃ (x : D) (bs : List Bool), ds = [x] ∧ lstOf h x = some (bs.map D.bl) ∧ Q (.bl (bs.any id)) h
def dListOf (m : Bool) (ds : List D) (h : AH) (Q : KD) : Prop := ∃ x xs, ds = [x] ∧ seqOf h x = some xs ∧ newL m xs h Q
def dTupOf (ds : List D) (h : AH) (Q : KD) : Prop := ∃ x xs, ds = [x] ∧ seqOf h x = some xs ∧ Q (.tup xs) h
def tyD (h : AH) (x : D) : Option String := match cur h x with
  | .non => some "NoneType"
  | .bl _ => some "bool"
  | .int _ => some "int"
  | .str _ => some "str"
  | .tup _ => some "tuple"
  | .tpl _ => some "tuple"
  | .lst _ => some "list"
  | .dK _ => some "dict"
  | .dT _ => some "dict"
  | _ => none
def dIsi (ds : List D) (h : AH) (Q : KD) : Prop := ∃ x t n b, ds = [x, .ty n] ∧ tyD h x = some t ∧ L2.kitB t n = some b ∧ Q (.bl b) h
def dRepr (ds : List D) (h : AH) (Q : KD) : Prop := ∃ x, ds = [x] ∧ dat (cur h x) = true ∧ (pd (cur h x)).showable = true ∧ (pd (cur h x)).depth ≤ 60 ∧ (pd (cur h x)).shown.length ≤ sizeLine ∧ Q (.str (pd (cur h x)).shown) h
end DL
namespace DL
open PySem PySem.Spec L2 C8

section
variable {K : PySem.W.Frag} {F : Hp} {h : AH} {H : Hp}
theorem Reps.one {d : D} {vs : List V} (r : Reps K F [d] vs) : ∃ v, vs = [v] ∧ Rep K F d v := by
  cases r with | cons r rs => cases rs; exact ⟨_, rfl, r⟩
theorem Reps.two {d e : D} {vs : List V} (r : Reps K F [d, e] vs) : ∃ v w, vs = [v, w] ∧ Rep K F d v ∧ Rep K F e w := by
  cases r with | cons r rs => cases rs with | cons q qs => cases qs; exact ⟨_, _, rfl, r, q⟩
theorem Reps.ints : ∀ {ns : List Int} {vs : List V}, Reps K F (ns.map D.int) vs → vs = ns.map V.int
  | [], _, .nil => rfl
  | n :: ns, _, .cons r t => by cases r; rw [Reps.ints t]; rfl
theorem Reps.bls : ∀ {ns : List Bool} {vs : List V}, Reps K F (ns.map D.bl) vs → vs = ns.map V.bl
  | [], _, .nil => rfl
  | n :: ns, _, .cons r t => by cases r; rw [Reps.bls t]; rfl
theorem Sim.intsOf {x : D} {v : V} {ns : List Int} (S : Sim K F h H) (r : Rep K F x v) (e : DL.lstOf h x = some (ns.map D.int)) : ∃ a, v = .ref a ∧ SqL K H a (ns.map V.int) := by
  obtain ⟨a, vs, rfl, ha, rs⟩ := S.lstOf r e
  rw [rs.ints] at ha
  exact ⟨a, rfl, .of ha⟩
end
section
variable {X : Cx}
theorem dAbs_ok : CaD X (.builtin "abs") dAbs where
  ex := ⟨_, call_abs, fun {F h H ds vs Q} S r q => by
    unfold dAbs at q; split at q
    · obtain ⟨v, rfl, r1⟩ := r.one; cases r1; exact ⟨_, rfl, q.at S (.int _)⟩
    · exact q.elim⟩
  mo := fun {ds h Q Q'} hq q => by
    unfold dAbs at *; split at q
    · exact hq _ _ q
    · exact q.elim
theorem dInt_ok : CaD X (.type "int") dInt where
  ex := ⟨_, call_int1, fun {F h H ds vs Q} S r q => by
    unfold dInt at q; split at q
    · obtain ⟨v, rfl, r1⟩ := r.one; cases r1; exact .inl ⟨_, rfl, q.at S (.int _)⟩
    · obtain ⟨v, rfl, r1⟩ := r.one; cases r1; exact .inr ⟨_, rfl, q.at S (.int _)⟩
    · exact q.elim⟩
  mo := fun {ds h Q Q'} hq q => by
    unfold dInt at *; split at q
    · exact hq _ _ q
    · exact hq _ _ q
    · exact q.elim
theorem dMax2_ok (hc : X.calm = true) : CaD X (.builtin "max") dMax2 where
  ex := ⟨_, call_max2 hc, fun {F h H ds vs Q} S r q => by
    unfold dMax2 at q; split at q
    · obtain ⟨v, w, rfl, r1, r2⟩ := r.two; cases r1; cases r2; exact ⟨_, _, rfl, q.at S (.int _)⟩
    · exact q.elim⟩
  mo := fun {ds h Q Q'} hq q => by
    unfold dMax2 at *; split at q
    · exact hq _ _ q
    · exact q.elim
theorem dMin2_ok (hc : X.calm = true) : CaD X (.builtin "min") dMin2 where
  ex := ⟨_, call_min2 hc, fun {F h H ds vs Q} S r q => by
    unfold dMin2 at q; split at q
    · obtain ⟨v, w, rfl, r1, r2⟩ := r.two; cases r1; cases r2; exact ⟨_, _, rfl, q.at S (.int _)⟩
    · exact q.elim⟩
  mo := fun {ds h Q Q'} hq q => by
    unfold dMin2 at *; split at q
    · exact hq _ _ q
    · exact q.elim
theorem dSum_ok (hc : X.calm = true) : CaD X (.builtin "sum") dSum where
  ex := ⟨_, cr_sum hc, fun {F h H ds vs Q} S r q => by
    obtain ⟨x, ns, rfl, e, q⟩ := q
    obtain ⟨v, rfl, r1⟩ := r.one
    obtain ⟨a, rfl, ha⟩ := S.intsOf r1 e
    exact ⟨a, ns, rfl, ha, q.at S (.int _)⟩⟩
  mo := fun {ds h Q Q'} hq ⟨x, ns, e, e2, q⟩ => ⟨x, ns, e, e2, hq _ _ q⟩
theorem dMax1_ok (hc : X.calm = true) : CaD X (.builtin "max") dMax1 where
  ex := ⟨_, cr_max hc, fun {F h H ds vs Q} S r q => by
    obtain ⟨x, ns, rfl, e, l, q⟩ := q
    obtain ⟨v, rfl, r1⟩ := r.one
    obtain ⟨a, rfl, ha⟩ := S.intsOf r1 e
    exact ⟨a, ns, rfl, ha, l, fun m hm hy => (q m hm hy).at S (.int _)⟩⟩
  mo := fun {ds h Q Q'} hq ⟨x, ns, e, e2, l, q⟩ => ⟨x, ns, e, e2, l, fun m hm hy => hq _ _ (q m hm hy)⟩
theorem dMin1_ok (hc : X.calm = true) : CaD X (.builtin "min") dMin1 where
  ex := ⟨_, cr_min hc, fun {F h H ds vs Q} S r q => by
    obtain ⟨x, ns, rfl, e, l, q⟩ := q
    obtain ⟨v, rfl, r1⟩ := r.one
    obtain ⟨a, rfl, ha⟩ := S.intsOf r1 e
    exact ⟨a, ns, rfl, ha, l, fun m hm hy => (q m hm hy).at S (.int _)⟩⟩
  mo := fun {ds h Q Q'} hq ⟨x, ns, e, e2, l, q⟩ => ⟨x, ns, e, e2, l, fun m hm hy => hq _ _ (q m hm hy)⟩
theorem dAll_ok (hc : X.calm = true) : CaD X (.builtin "all") dAll where
  ex := ⟨_, cr_all hc, fun {F h H ds vs Q} S r q => by
    obtain ⟨x, ns, rfl, e, q⟩ := q
    obtain ⟨v, rfl, r1⟩ := r.one
    obtain ⟨a, us, rfl, ha, rs⟩ := S.lstOf r1 e
    rw [rs.bls] at ha
    exact ⟨a, ns, rfl, .of ha, q.at S (.bl _)⟩⟩
  mo := fun {ds h Q Q'} hq ⟨x, ns, e, e2, q⟩ => ⟨x, ns, e, e2, hq _ _ q⟩
theorem dAny_ok (hc : X.calm = true) : CaD X (.builtin "any") dAny where
  ex := ⟨_, cr_any hc, fun {F h H ds vs Q} S r q => by
    obtain ⟨x, ns, rfl, e, q⟩ := q
    obtain ⟨v, rfl, r1⟩ := r.one
    obtain ⟨a, us, rfl, ha, rs⟩ := S.lstOf r1 e
    rw [rs.bls] at ha
    exact ⟨a, ns, rfl, .of ha, q.at S (.bl _)⟩⟩
  mo := fun {ds h Q Q'} hq ⟨x, ns, e, e2, q⟩ => ⟨x, ns, e, e2, hq _ _ q⟩
theorem dListOf_ok {m : Bool} : CaD X (.type "list") (dListOf m) where
  ex := ⟨_, call_list_of, fun {F h H ds vs Q} S r q => by
    obtain ⟨x, xs, rfl, e, q⟩ := q
    obtain ⟨v, rfl, r1⟩ := r.one
    obtain ⟨a, us, rfl, ha, rs⟩ := S.seqOf r1 e
    exact ⟨a, us, rfl, ha, S.newL rs q⟩⟩
  mo := fun {ds h Q Q'} hq ⟨x, ns, e, e2, q⟩ => ⟨x, ns, e, e2, newL_mo hq q⟩
theorem dTupOf_ok : CaD X (.type "tuple") dTupOf where
  ex := ⟨_, call_tuple_of, fun {F h H ds vs Q} S r q => by
    obtain ⟨x, xs, rfl, e, q⟩ := q
    obtain ⟨v, rfl, r1⟩ := r.one
    by_cases c : ∃ ys, x = .tup ys
    · obtain ⟨ys, rfl⟩ := c
      cases e
      cases r1 with
      | @tup a _ ws hs rs => exact ⟨a, ws, rfl, .inr ⟨sqt_of S.fz hs, q.at S (.tup hs rs)⟩⟩
    by_cases c2 : ∃ ys, x = .tpl ys
    · obtain ⟨ys, rfl⟩ := c2
      cases e
      cases r1 with
      | @tpl a _ _ ws hs _ rs => exact ⟨a, ws, rfl, .inr ⟨sqt_of S.fz (.inl (.inr ⟨_, hs⟩)), q.at S (.tup (.inl (.inr ⟨_, hs⟩)) rs)⟩⟩
    · have e' : lstOf h x = some xs := by
        cases x <;> first | exact e | exact absurd ⟨_, rfl⟩ c | exact absurd ⟨_, rfl⟩ c2
      obtain ⟨a, us, rfl, ha, rs⟩ := S.lstOf r1 e'
      exact ⟨a, us, rfl, .inl ⟨.of ha, S.newT rs q⟩⟩⟩
  mo := fun {ds h Q Q'} hq ⟨x, ns, e, e2, q⟩ => ⟨x, ns, e, e2, hq _ _ q⟩
def rLenD (K : PySem.W.Frag) : List V → Hp → VK → Prop := fun xs H Q => (∃ z, xs = [V.str z] ∧ z.length ≤ sizeLine ∧ Q (.int z.length) H) ∨ ((∃ p ys, xs = [V.ref p] ∧ (SqL K H p ys ∨ SqT K H p ys) ∧ Q (.int ys.length) H) ∨ ∃ a kvs, xs = [V.ref a] ∧ H a = some (.dK kvs) ∧ Q (.int kvs.length) H)
theorem RepK.length {K : PySem.W.Frag} {F : Hp} : ∀ {xs : List (Key × D)} {vs : List (Key × V)}, RepK K F xs vs → xs.length = vs.length
  | _, _, .nil => rfl
  | _, _, .cons _ t => by simp [RepK.length t]
theorem dLen_ok : CaD X (.builtin "len") dLen where
  ex := ⟨rLenD X.K, CallR.or call_len_str (CallR.or call_len_seq call_lenD), fun {F h H ds vs Q} S r q => by
    unfold dLen at q
    split at q
    · obtain ⟨v, rfl, r1⟩ := r.one; cases r1
      exact .inl ⟨_, rfl, q.1, q.2.at S (.int _)⟩
    · obtain ⟨n, e, q⟩ := q
      obtain ⟨v, rfl, r1⟩ := r.one
      cases r1 with
      | ref a =>
        cases ea : h a with
        | none => simp [lenD, cur, ea] at e
        | some o =>
          obtain ⟨_, u, hu, ro⟩ := S.ob _ _ ea
          cases o with
          | lst xs =>
            obtain ⟨us, rfl, rs⟩ := ro
            simp only [lenD, cur, ea, Option.some.injEq] at e
            subst e
            exact .inr (.inl ⟨a, us, rfl, .inl (.of hu), by rw [← rs.length]; exact q.at S (.int _)⟩)
          | dK xs =>
            obtain ⟨us, rfl, rs⟩ := ro
            simp only [lenD, cur, ea, Option.some.injEq] at e
            subst e
            exact .inr (.inr ⟨a, us, rfl, hu, by rw [← rs.length]; exact q.at S (.int _)⟩)
          | dT _ => simp [lenD, cur, ea] at e
          | ins _ _ => simp [lenD, cur, ea] at e
          | lck _ => simp [lenD, cur, ea] at e
      | @tup a xs us hs rs =>
        simp only [lenD, cur, Option.some.injEq] at e
        subst e
        exact .inr (.inl ⟨a, us, rfl, .inr (sqt_of S.fz hs), by rw [← rs.length]; exact q.at S (.int _)⟩)
      | @tpl a ob xs us hs hd rs =>
        simp only [lenD, cur, Option.some.injEq] at e
        subst e
        exact .inr (.inl ⟨a, us, rfl, .inr (sqt_of S.fz (.inl (.inr ⟨_, hs⟩))), by rw [← rs.length]; exact q.at S (.int _)⟩)
      | @lst a xs us hs rs =>
        simp only [lenD, cur, Option.some.injEq] at e
        subst e
        exact .inr (.inl ⟨a, us, rfl, .inl (.of (S.fz _ _ hs)), by rw [← rs.length]; exact q.at S (.int _)⟩)
      | @dK a xs us hs rs =>
        simp only [lenD, cur, Option.some.injEq] at e
        subst e
        exact .inr (.inr ⟨a, us, rfl, S.fz _ _ hs, by rw [← rs.length]; exact q.at S (.int _)⟩)
      | dT _ _ => simp [lenD, cur] at e
      | str s => rename_i hn; exact absurd rfl (hn s)
      | non => simp [lenD, cur] at e
      | bl _ => simp [lenD, cur] at e
      | int _ => simp [lenD, cur] at e
      | ty _ => simp [lenD, cur] at e
      | lk _ _ => simp [lenD, cur] at e
      | ob _ _ => simp [lenD, cur] at e
    · exact q.elim⟩
  mo := fun {ds h Q Q'} hq q => by
    unfold dLen at *; split at q
    · exact ⟨q.1, hq _ _ q.2⟩
    · obtain ⟨n, e, q⟩ := q; exact ⟨n, e, hq _ _ q⟩
    · exact q.elim
/-- the type of a value -/
theorem Sim.tyD {K : PySem.W.Frag} {F : Hp} {h : AH} {H : Hp} {x : D} {v : V} {t : String} (S : Sim K F h H) (r : Rep K F x v) (e : DL.tyD h x = some t) : TyX K H v (.type t) := by
  cases r with
  | ref a =>
    cases ea : h a with
    | none => simp [DL.tyD, cur, ea] at e
    | some o =>
      obtain ⟨_, u, hu, ro⟩ := S.ob _ _ ea
      cases o with
      | lst xs => obtain ⟨us, rfl, rs⟩ := ro; simp only [DL.tyD, cur, ea, Option.some.injEq] at e; subst e; exact .base (.lst hu)
      | dK xs => obtain ⟨us, rfl, rs⟩ := ro; simp only [DL.tyD, cur, ea, Option.some.injEq] at e; subst e; exact .base (.dK hu)
      | dT xs => obtain ⟨us, rfl, rs⟩ := ro; simp only [DL.tyD, cur, ea, Option.some.injEq] at e; subst e; exact .base (.dT hu)
      | ins _ _ => simp [DL.tyD, cur, ea] at e
      | lck _ => simp [DL.tyD, cur, ea] at e
  | non => simp only [DL.tyD, cur, Option.some.injEq] at e; subst e; exact .base .non
  | bl b => simp only [DL.tyD, cur, Option.some.injEq] at e; subst e; exact .base (.bl b)
  | int i => simp only [DL.tyD, cur, Option.some.injEq] at e; subst e; exact .base (.int i)
  | str s => simp only [DL.tyD, cur, Option.some.injEq] at e; subst e; exact .base (.str s)
  | ty n => simp [DL.tyD, cur] at e
  | lk _ _ => simp [DL.tyD, cur] at e
  | ob _ _ => simp [DL.tyD, cur] at e
  | tup hs rs =>
    simp only [DL.tyD, cur, Option.some.injEq] at e; subst e
    rcases sqt_of S.fz hs with (q | ⟨o, q⟩) | ⟨o, its, n, q, c, _⟩
    · exact .base (.tup q)
    · exact .fTuple q
    · exact .kTuple q c
  | tpl hs hd rs => simp only [DL.tyD, cur, Option.some.injEq] at e; subst e; exact .fTuple (S.fz _ _ hs)
  | lst hs rs => simp only [DL.tyD, cur, Option.some.injEq] at e; subst e; exact .base (.lst (S.fz _ _ hs))
  | dK hs rs => simp only [DL.tyD, cur, Option.some.injEq] at e; subst e; exact .base (.dK (S.fz _ _ hs))
  | dT hs rs => simp only [DL.tyD, cur, Option.some.injEq] at e; subst e; exact .base (.dT (S.fz _ _ hs))
theorem dIsi_ok : CaD X (.builtin "isinstance") dIsi where
  ex := ⟨_, call_isi, fun {F h H ds vs Q} S r q => by
    obtain ⟨x, t, n, b, rfl, et, eb, q⟩ := q
    obtain ⟨v, w, rfl, r1, r2⟩ := r.two
    cases r2
    exact ⟨v, .ty n, .type t, .type n, b, rfl, .ty n, S.tyD r1 et, kit_ty eb, q.at S (.bl _)⟩⟩
  mo := fun {ds h Q Q'} hq ⟨x, t, n, b, e, e1, e2, q⟩ => ⟨x, t, n, b, e, e1, e2, hq _ _ q⟩
/-! ### repr -/
theorem call_reprD (hg : X.A.guards = some []) (hu : X.A.units + 64 < cLine) : CallR X (.builtin "repr") (fun vs H Q => ∃ x d, vs = [x] ∧ Dp X.K H x d ∧ d.hasDict = false ∧ d.showable = true ∧ d.depth ≤ 60 ∧ d.shown.length ≤ sizeLine ∧ Q (.str d.shown) H) := by
  intro pins s σ H xs us Q I r h
  obtain ⟨x, d, rfl, hd, hn, hs, dp, hz, q⟩ := h
  obtain ⟨u, rfl, rx⟩ : ∃ u, us = [u] ∧ RelV x u := by cases r with | cons r t => cases t; exact ⟨_, rfl, r⟩
  obtain ⟨as, rd⟩ := Dp.reads I d x u hd rx
  cases rd with
  | none => exact PySem.P.repr_of_none ⟨.str _, H, I.tok _, ⟨_, rfl⟩, by rw [PyData.shown] at q; exact q⟩
  | bool b => exact PySem.P.repr_of_bool ⟨.str _, H, I.tok _, ⟨_, rfl⟩, by rw [PyData.shown] at q; exact q⟩
  | int i t =>
    refine PySem.P.repr_of_int (by rw [PyData.showable] at hs; exact of_decide_eq_true hs) ⟨.str _, H, I.tok _, ⟨_, rfl⟩, by rw [PyData.shown] at q; exact q⟩
  | str x t => exact PySem.P.repr_of_str ⟨.str _, H, I.tok _, ⟨_, rfl⟩, by rw [PyData.shown] at q; exact q⟩ (by rw [PyData.shown] at hz; exact hz)
  | list a b c e => exact repr_of_reads' (.list a b c e) hs (fun z => by rw [hn] at z; cases z) hg (by omega) (fun _ _ z => z) (fun h' u tk k => ⟨.str _, H, I.kept k, ⟨_, rfl⟩, q⟩) hz
  | tuple a b c e => exact repr_of_reads' (.tuple a b c e) hs (fun z => by rw [hn] at z; cases z) hg (by omega) (fun _ _ z => z) (fun h' u tk k => ⟨.str _, H, I.kept k, ⟨_, rfl⟩, q⟩) hz
  | dict _ _ _ _ _ => cases hd
mutual
theorem noDict : ∀ d : D, (pd d).hasDict = false
  | .non => by rw [pd, PyData.hasDict]
  | .bl _ => by rw [pd, PyData.hasDict]
  | .int _ => by rw [pd, PyData.hasDict]
  | .str _ => by rw [pd, PyData.hasDict]
  | .tup xs => by rw [pd, PyData.hasDict]; exact noDicts xs
  | .tpl xs => by rw [pd, PyData.hasDict]; exact noDicts xs
  | .lst xs => by rw [pd, PyData.hasDict]; exact noDicts xs
  | .ref _ => by rw [pd, PyData.hasDict]
  | .ty _ => by rw [pd, PyData.hasDict]
  | .lk _ => by rw [pd, PyData.hasDict]
  | .ob _ _ => by rw [pd, PyData.hasDict]
  | .dK _ => by rw [pd, PyData.hasDict]
  | .dT _ => by rw [pd, PyData.hasDict]
theorem noDicts : ∀ ds : List D, PyData.hasDictAll (pds ds) = false
  | [] => by rw [pds, PyData.hasDictAll]
  | d :: ds => by rw [pds, PyData.hasDictAll, noDict d, noDicts ds]; rfl
end
theorem dRepr_ok (hg : X.A.guards = some []) (hu : X.A.units + 64 < cLine) : CaD X (.builtin "repr") dRepr where
  ex := ⟨_, call_reprD hg hu, fun {F h H ds vs Q} S r q => by
    obtain ⟨x, rfl, e1, e2, e3, e4, q⟩ := q
    obtain ⟨v, rfl, r1⟩ := r.one
    exact ⟨v, _, rfl, S.curDp r1 e1, noDict _, e2, e3, e4, q.at S (.str _)⟩⟩
  mo := fun {ds h Q Q'} hq ⟨x, e, e1, e2, e3, e4, q⟩ => ⟨x, e, e1, e2, e3, e4, hq _ _ q⟩
end
end DL
namespace DL
open PySem PySem.Spec L2 C8

/-! ### one more built-in runs around -/
abbrev inX (X : Cx) : Cx := { X with A := X.A.in1 }
theorem ok_in {X : Cx} (ok : X.Ok) : (inX X).Ok :=
  ⟨ok.mod, ok.kind, ok.glob, ok.blt, ok.above, ok.inj, ok.has, ok.cab, ok.hd, ok.frames, ok.stk, ok.exf, ok.bs, ok.bsz, ok.noex, ok.exfs, ok.funs, ok.frf⟩
theorem ok_out {X : Cx} (ok : (inX X).Ok) : X.Ok :=
  ⟨ok.mod, ok.kind, ok.glob, ok.blt, ok.above, ok.inj, ok.has, ok.cab, ok.hd, ok.frames, ok.stk, ok.exf, ok.bs, ok.bsz, ok.noex, ok.exfs, ok.funs, ok.frf⟩
section
variable {X : Cx} {pins : List (Addr × Obj)} {σ : L2.St} {H : Hp} {s : Shared}
theorem inv_in (I : Inv X pins σ H s) : Inv (inX X) pins σ H s := ⟨ok_in I.ok, I.os, I.bare, I.base, I.loc, I.cell, I.free, I.freeC, I.pin, I.hok, I.len⟩
theorem inv_out (I : Inv (inX X) pins σ H s) : Inv X pins σ H s := ⟨ok_out I.ok, I.os, I.bare, I.base, I.loc, I.cell, I.free, I.freeC, I.pin, I.hok, I.len⟩
end

/-! ### d.items() as a value, d with keys that are ints or texts -/
def rItemsV : V → List V → Hp → VK → Prop := fun x xs H Q => ∃ (a : Addr) (kvs : List (Key × V)), x = .ref a ∧ xs = [] ∧ H a = some (.dK kvs) ∧ ∀ p, H p = none → Q (.ref p) (upd H p (L2.DX.itemsO p a))
section
variable {X : Cx}
theorem mt_itemsV : MtR X "dict.items" rItemsV := by
  intro pins s σ H x xs v us Q I rx rs h
  obtain ⟨a, kvs, rfl, rfl, ha, q⟩ := h
  cases rx
  cases rs
  obtain ⟨z, hd, vs, kv, o, es, ep, ho, hx, hdt, _⟩ := dk_of I.hok ha
  have hf : H s.heap.objs.size = none := I.hok.fresh (Nat.le_refl _)
  refine DT.callItems (es := es) (ep := ep) hd ⟨o, ho, hx, hdt⟩ ?_
  exact ⟨.ref s.heap.objs.size, _, I.laid (t' := s.toks) (fun b u e => Heap.get?_push_of_some _ e) (Nat.le_refl _) (L2.DX.itemsO_ok (Heap.get?_push_size _ rfl)), rfl, q _ hf⟩

/-- sorted of the view p of a dict whose keys and values are ints -/
def rSortIt : List V → Hp → VK → Prop := fun vs H Q => ∃ (p a : Addr) (es : List (Int × Int)), vs = [.ref p] ∧ H p = some (L2.DX.itemsO p a) ∧ H a = some (.dK (es.map fun e => (Sum.inl e.1, V.int e.2))) ∧
  ∀ (H' : Hp) (l : Addr) (ps : List (Addr × Int × Int)), (∀ b o, H b = some o → H' b = some o) → H l = none → (∀ z ∈ ps, z.1 ≠ l ∧ H z.1 = none) → (ps.map (·.2)).Perm es → (ps.map (·.2)).Pairwise (fun e f => e.1 < f.1 ∨ (e.1 = f.1 ∧ e.2 ≤ f.2)) →
    H' l = some (.lst (ps.map fun z => V.ref z.1)) → (∀ z ∈ ps, H' z.1 = some (.tup [.int z.2.1, .int z.2.2])) → Q (.ref l) H'
/-- entries of such a dict -/
theorem ents_of {P : Program} {w : World} : ∀ {es : List (Int × Int)} {vs : List (Key × Value)} {en : List DictEntry}, KV (es.map fun e => ((Sum.inl e.1 : Key), V.int e.2)) vs → Pairs (mixKind P w) en vs →
    en.length = es.length ∧ ∀ (j : Nat) (e : DictEntry), en[j]? = some e → ∃ (x : Int × Int) (t u : Tok), es[j]? = some x ∧ e.key = .int x.1 t ∧ e.val = .int x.2 u
  | [], _, _, .nil, .nil => ⟨rfl, fun j e h => by simp at h⟩
  | x :: es, _, _, .cons h1 h2, .cons k1 k2 k3 => by
    obtain ⟨l, ih⟩ := ents_of h2 k3
    refine ⟨by simp [l], fun j e hj => ?_⟩
    cases j with
    | zero =>
      simp only [List.getElem?_cons_zero, Option.some.injEq] at hj
      subst hj
      obtain ⟨e1, u, e2⟩ := h1
      rw [← e1] at k1
      have k1 : keyIs (Sum.inl x.1) _ = true := k1
      rcases keyIs_shape k1 with ⟨i, t, ei, ek⟩ | ⟨y, t, ei, ek⟩
      · cases ei
        exact ⟨x, t, u, rfl, ek, k2.trans e2⟩
      · cases ei
    | succ j => exact ih j e hj
def kOf (H : Hp) : V → Int × Int
  | .ref t => match H t with
    | some (.tup [.int i, .int j]) => (i, j)
    | _ => (0, 0)
  | _ => (0, 0)
theorem kOf_at {H : Hp} {t : Addr} {i j : Int} (h : H t = some (.tup [.int i, .int j])) : kOf H (.ref t) = (i, j) := by
  simp [kOf, h]
theorem cr_sortIt (hc : X.calm = true) : CallR X (.builtin "sorted") rSortIt := by
  intro pins s σ H xs us Q I r h
  obtain ⟨p, a, es, rfl, hp, ha, q⟩ := h
  obtain rfl := Vals.ref1 r
  have view : s.heap.IsItemsView p a := (show ObjOk X.prog X.w H s.heap p (L2.DX.itemsO p a) from I.hok p _ hp).1
  obtain ⟨z, hd, vs, kv, o, en, ep, ho, hx, hdt, hk, hpr, nd⟩ := dk_of I.hok ha
  rw [List.length_map] at z
  obtain ⟨len, ent⟩ := ents_of kv hpr
  have lsz : en.size = es.length := by rw [← len]; simp
  refine DT.sortedI (es := en) (ep := ep) (I.ok.hd hc) view ⟨o, ho, hx, hdt⟩ (by rw [lsz]; exact z) fun h' tk as hk' hlt hl hG => ?_
  have I1 : Inv X pins σ H { s with heap := h', toks := tk } := I.kept hk'
  have nda : as.Nodup := List.Pairwise.imp (fun h => Nat.ne_of_lt h) hG.rise
  have lss : sizeLine = 16777216 := sizeLine_eq
  -- the pairs
  have pr : ∀ (j : Nat) (b : Addr), as[j]? = some b → ∃ (x : Int × Int) (t u : Tok), es[j]? = some x ∧ h'.get? b = some { cls := .type "tuple", data := .seq #[.int x.1 t, .int x.2 u] } := by
    intro j b hj
    obtain ⟨e, he, hg⟩ := hG.pairs j b hj
    obtain ⟨x, t, u, hx, ek, ev⟩ := ent j e (by simpa using he)
    rw [ek, ev] at hg
    exact ⟨x, t, u, hx, hg⟩
  obtain ⟨H2, I2, sm, tup⟩ := L2.DX.takeT (P := fun b ws => ∃ (j : Nat) (x : Int × Int), as[j]? = some b ∧ es[j]? = some x ∧ ws = [V.int x.1, V.int x.2]) I as H I1 nda fun b hb => by
    obtain ⟨j, hj⟩ := List.mem_iff_getElem?.mp hb
    obtain ⟨x, t, u, hx, hg⟩ := pr j b hj
    have hbl : s.heap.objs.size ≤ b := Nat.le_of_lt (hG.above b hb)
    exact ⟨hbl, I.hok.fresh hbl, _, ⟨j, x, hj, hx, rfl⟩, fun H3 => ⟨by rw [lss]; show 2 ≤ 16777216; omega, _, .cons ⟨_, rfl⟩ (.cons ⟨_, rfl⟩ .nil), ⟨_, hg, rfl, 0, rfl⟩⟩⟩
  have fresh : H2 h'.objs.size = none := I2.hok.fresh (Nat.le_refl _)
  have below : ∀ b ∈ as, b ≠ h'.objs.size := fun b hb e => by
    obtain ⟨_, _, z⟩ := tup b hb
    rw [e, fresh] at z; cases z
  have lv : Vals (as.map V.ref) (as.map Value.ref) := by
    clear nda pr tup below hG hl
    induction as with
    | nil => exact .nil
    | cons b bs ih => exact .cons rfl ih
  have I3 := I2.lnew (t' := tk) lv (by rw [List.length_map, hl, lsz]; exact z)
  -- the pairs' ints
  have tp : ∀ b ∈ as, ∃ (j : Nat) (x : Int × Int), as[j]? = some b ∧ es[j]? = some x ∧ H2 b = some (.tup [.int x.1, .int x.2]) := fun b hb => by
    obtain ⟨ws, ⟨j, x, h1, h2, rfl⟩, e⟩ := tup b hb
    exact ⟨j, x, h1, h2, e⟩
  refine wpAny_mono (mt_sortPO (X := inX X) pins _ σ _ (.ref h'.objs.size) [] (.ref h'.objs.size) [] (fun v H4 => v = .non ∧ ∃ zs, SrtO.Srtd (ltP (kOf H2)) zs ∧ SrtO.Stb (ltP (kOf H2)) zs (as.map V.ref) ∧ H4 = upd (upd H2 h'.objs.size (.lst (as.map V.ref))) h'.objs.size (.lst zs)) (inv_in I3) rfl .nil
    ⟨h'.objs.size, as.map V.ref, kOf H2, rfl, rfl, upd_same, fun y hy => ?_, fun zs h1 h2 => ⟨rfl, zs, h1, h2, rfl⟩⟩) (fun u s' hq => ?_) fun _ _ z => z
  · obtain ⟨b, hb, rfl⟩ := List.mem_map.mp hy
    obtain ⟨j, x, _, _, e⟩ := tp b hb
    refine ⟨b, rfl, ?_⟩
    rw [upd_ne (below b hb), kOf_at e]
    exact e
  · obtain ⟨v, H4, I4, rv, rfl, zs, h1, h2, rfl⟩ := hq
    have mem : ∀ y ∈ zs, ∃ b ∈ as, y = V.ref b := fun y hy => by
      obtain ⟨b, hb, e⟩ := List.mem_map.mp (h2.perm.mem_iff.mp hy)
      exact ⟨b, hb, e.symm⟩
    -- zs as addresses
    let f : V → Addr × Int × Int := fun y => match y with | .ref b => (b, kOf H2 (.ref b)) | _ => (0, 0, 0)
    have fz : ∀ y ∈ zs, V.ref (f y).1 = y := fun y hy => by obtain ⟨b, _, rfl⟩ := mem y hy; rfl
    have perm : ((zs.map f).map (·.2)).Perm es := by
      have e1 : ((as.map V.ref).map f).map (·.2) = es := by
        apply List.ext_getElem?
        intro j
        simp only [List.map_map, List.getElem?_map]
        cases ej : as[j]? with
        | none =>
          have : es.length ≤ j := by rw [← lsz, ← hl]; exact List.getElem?_eq_none_iff.mp ej
          rw [List.getElem?_eq_none this]; rfl
        | some b =>
          obtain ⟨x, t, u, hx, _⟩ := pr j b ej
          obtain ⟨j2, x2, g1, g2, g3⟩ := tp b (List.mem_of_getElem? ej)
          have : j2 = j := (List.getElem?_inj (List.getElem?_eq_some_iff.mp g1).1 nda).mp (g1.trans ej.symm)
          subst this
          rw [g2] at hx; cases hx
          rw [g2]
          show some (kOf H2 (.ref b)) = some _
          rw [kOf_at g3]
      rw [← e1]
      exact (h2.perm.map f).map _
    refine ⟨.ref h'.objs.size, _, inv_out I4, rfl, q _ _ (zs.map f) (fun b o e => ?_) (by
        cases e : H h'.objs.size with
        | none => rfl
        | some o => rw [sm _ _ e] at fresh; cases fresh) (fun z hz => ?_) perm ?_ ?_ fun z hz => ?_⟩
    · have n : b ≠ h'.objs.size := fun e2 => by rw [← e2, sm _ _ e] at fresh; cases fresh
      rw [upd_ne n, upd_ne n]; exact sm _ _ e
    · obtain ⟨y, hy, rfl⟩ := List.mem_map.mp hz
      obtain ⟨b, hb, rfl⟩ := mem y hy
      exact ⟨below b hb, I.hok.fresh (Nat.le_of_lt (hG.above b hb))⟩
    · rw [List.pairwise_map, List.pairwise_map]
      refine List.Pairwise.imp_of_mem (fun {x y} hx hy h => ?_) h1
      obtain ⟨b, _, rfl⟩ := mem x hx
      obtain ⟨c, _, rfl⟩ := mem y hy
      have h := SrtO.lexB_no.mp h
      show (kOf H2 (.ref b)).1 < (kOf H2 (.ref c)).1 ∨ ((kOf H2 (.ref b)).1 = (kOf H2 (.ref c)).1 ∧ (kOf H2 (.ref b)).2 ≤ (kOf H2 (.ref c)).2)
      omega
    · rw [upd_same, List.map_map]
      congr 2
      apply List.ext_getElem?
      intro j
      rw [List.getElem?_map]
      cases ej : zs[j]? with
      | none => rfl
      | some y => exact congrArg some (fz y (List.mem_of_getElem? ej)).symm
    · obtain ⟨y, hy, rfl⟩ := List.mem_map.mp hz
      obtain ⟨b, hb, rfl⟩ := mem y hy
      obtain ⟨j, x, _, _, e⟩ := tp b hb
      show (upd _ _ _) b = some (.tup [.int (kOf H2 (.ref b)).1, .int (kOf H2 (.ref b)).2])
      rw [upd_ne (below b hb), upd_ne (below b hb), kOf_at e]
      exact e
end
end DL
namespace DL
open PySem PySem.Spec L2 C8

/-! ### dicts with keys that are ints or texts -/
def keyD : D → Option Key
  | .int i => some (.inl i)
  | .str s => some (.inr s)
  | _ => none
def valD (kvs : List (Key × D)) (k : Key) : Option D := (kvs.find? fun kv => decide (kv.1 = k)).map (·.2)
def putD (kvs : List (Key × D)) (k : Key) (v : D) : List (Key × D) :=
  if (kvs.any fun kv => decide (kv.1 = k)) = true then kvs.map (fun kv => if kv.1 = k then (kv.1, v) else kv) else kvs ++ [(k, v)]
def dkOf (h : AH) : D → Option (List (Key × D))
  | .dK xs => some xs
  | .ref a => match h a with
    | some (.dK xs) => some xs
    | _ => none
  | _ => none
section
variable {K : PySem.W.Frag} {F : Hp} {h : AH} {H : Hp} {d : D} {v : V}
theorem RepK.val : ∀ {kvs : List (Key × D)} {vs : List (Key × V)}, RepK K F kvs vs → ∀ k : Key, (valD kvs k = none ∧ valV vs k = none) ∨ ∃ d v, valD kvs k = some d ∧ valV vs k = some v ∧ Rep K F d v
  | _, _, .nil, k => .inl ⟨rfl, rfl⟩
  | _, _, @RepK.cons _ _ k0 x u xs us r t, k => by
    by_cases c : k0 = k
    · subst c
      exact .inr ⟨x, u, by simp [valD], by simp [valV], r⟩
    · have e1 : valD ((k0, x) :: xs) k = valD xs k := by simp [valD, List.find?_cons, c]
      have e2 : valV ((k0, u) :: us) k = valV us k := by simp [valV, List.find?_cons, c]
      rw [e1, e2]
      exact RepK.val t k
theorem RepK.keys : ∀ {kvs : List (Key × D)} {vs : List (Key × V)}, RepK K F kvs vs → kvs.map (·.1) = vs.map (·.1)
  | _, _, .nil => rfl
  | _, _, .cons _ t => by simp [RepK.keys t]
theorem RepK.append : ∀ {xs ys : List (Key × D)} {vs ws : List (Key × V)}, RepK K F xs vs → RepK K F ys ws → RepK K F (xs ++ ys) (vs ++ ws)
  | _, _, _, _, .nil, s => s
  | _, _, _, _, .cons h t, s => .cons h (RepK.append t s)
theorem RepK.any : ∀ {kvs : List (Key × D)} {vs : List (Key × V)}, RepK K F kvs vs → ∀ k : Key, (kvs.any fun kv => decide (kv.1 = k)) = (vs.any fun kv => decide (kv.1 = k))
  | _, _, .nil, _ => rfl
  | _, _, .cons _ t, k => by simp only [List.any_cons]; rw [RepK.any t k]
theorem RepK.repl {k : Key} {x : D} {u : V} (r : Rep K F x u) : ∀ {kvs : List (Key × D)} {vs : List (Key × V)}, RepK K F kvs vs → RepK K F (kvs.map fun kv => if kv.1 = k then (kv.1, x) else kv) (vs.map fun kv => if kv.1 = k then (kv.1, u) else kv)
  | _, _, .nil => .nil
  | _, _, @RepK.cons _ _ k0 y w ys ws q t => by
    simp only [List.map_cons]
    by_cases c : k0 = k
    · rw [if_pos c, if_pos c]; exact .cons r (RepK.repl r t)
    · rw [if_neg c, if_neg c]; exact .cons q (RepK.repl r t)
theorem RepK.put {kvs : List (Key × D)} {vs : List (Key × V)} (t : RepK K F kvs vs) (k : Key) {x : D} {u : V} (r : Rep K F x u) : RepK K F (putD kvs k x) (putK vs k u) := by
  unfold putD putK
  rw [t.any k]
  split
  · exact RepK.repl r t
  · exact t.append (.cons r .nil)
theorem keyD_to {d : D} {v : V} {k : Key} (r : Rep K F d v) (e : keyD d = some k) : v = kV k := by
  cases r <;> first | (simp [keyD] at e; done) | (simp only [keyD, Option.some.injEq] at e; subst e; rfl)
theorem Sim.dkOf {kvs : List (Key × D)} (S : Sim K F h H) (r : Rep K F d v) (e : DL.dkOf h d = some kvs) : ∃ a vs, v = .ref a ∧ H a = some (.dK vs) ∧ RepK K F kvs vs := by
  cases r with
  | ref a =>
    cases q : h a with
    | none => simp [DL.dkOf, q] at e
    | some o =>
      cases o with
      | dK ys =>
        simp only [DL.dkOf, q, Option.some.injEq] at e
        subst e
        obtain ⟨_, u, hu, vs, rfl, rs⟩ := S.ob _ _ q
        exact ⟨a, vs, rfl, hu, rs⟩
      | lst _ => simp [DL.dkOf, q] at e
      | dT _ => simp [DL.dkOf, q] at e
      | ins _ _ => simp [DL.dkOf, q] at e
      | lck _ => simp [DL.dkOf, q] at e
  | @dK a ys vs hf rs =>
    cases e
    exact ⟨a, vs, rfl, S.fz _ _ hf, rs⟩
  | non => cases e
  | bl _ => cases e
  | int _ => cases e
  | str _ => cases e
  | ty _ => cases e
  | lk _ _ => cases e
  | ob _ _ => cases e
  | tup _ _ => cases e
  | tpl _ _ _ => cases e
  | lst _ _ => cases e
  | dT _ _ => cases e
/-- what stands anew behind a call is taken as what does not change -/
theorem Sim.grow {H' : Hp} (S : Sim K F h H) (sm : ∀ b o, H b = some o → H' b = some o) (P : Addr → Bool) : ∃ F', Ext F F' ∧ Sim K F' h H' ∧ (∀ b, H b = none → P b = true → F' b = H' b) ∧ ∀ b, H b = none → P b = false → ∀ o, F' b ≠ some o := by
  refine ⟨fun b => if (H b).isNone = true ∧ P b = true then H' b else F b, fun b o e => ?_, ⟨fun b o e => ?_, fun b o e => ?_⟩, fun b e p => ?_, fun b e p o q => ?_⟩
  · have : H b = some o := S.fz _ _ e
    show (if (H b).isNone = true ∧ P b = true then H' b else F b) = some o
    rw [this]; simp [e]
  · split at e
    · exact e
    · exact sm _ _ (S.fz _ _ e)
  · obtain ⟨f, u, hu, r⟩ := S.ob _ _ e
    refine ⟨by simp [hu, f], u, sm _ _ hu, r.ext fun c w q => ?_⟩
    have : H c = some w := S.fz _ _ q
    simp [this, q]
  · simp [e, p]
  · simp [p, (S.free e).1] at q
end

section
variable {X : Cx} {E : XK} {k : Nat} {o i e f value : Expr} {wo wi we wf wv : WE} {pos cpos apos pos' p : Pos}
def wDnew : WE := fun _ h Q _ => ∀ p, h p = none → Q (.ref p) (up h p (.dK []))
theorem ae_dnew : AE X E (.Dict [] [] pos) wDnew := by
  refine ⟨PE.imp pe_dnewK fun σ H Q ⟨F, ρ, h, S, R, q⟩ => ?_, fun ρ h Q Q' X X' hq _ q p e => hq _ _ (q p e)⟩
  intro p hp
  obtain ⟨f, g⟩ := S.free hp
  exact q p g F _ _ (.refl F) (S.newM hp (o := .dK []) ⟨[], rfl, .nil⟩) (.ref p)
/-- d.get(k, x) -/
def wGet2 (wo wi wx : WE) : WE := fun ρ h Q X => wo ρ h (fun x h1 => (dkOf h1 x).isSome = true ∧ wi ρ h1 (fun y h2 => wx ρ h2 (fun z h3 => ∃ kvs k, dkOf h3 x = some kvs ∧ keyD y = some k ∧ Q ((valD kvs k).getD z) h3) X) X) X
theorem ae_get2 (c : Cg gz X E k) (ho : AE X E o wo) (he : AE X E e we) (hf : AE X E f wf) (m : M2 X o "get" apos e f cpos) : AE X E (.Call (.Attribute o "get" apos) [e, f] [] cpos) (wGet2 wo we wf) := by
  refine ⟨PE.imp (pe_dget2 (hu_of c.room) ho.run he.run hf.run m) fun σ H Q ⟨F, ρ, h, S, R, q⟩ => ?_, fun ρ h Q Q' X X' hq hx q => ho.mo _ _ _ _ _ _ (fun x h1 z => ⟨z.1, he.mo _ _ _ _ _ _ (fun y h2 z => hf.mo _ _ _ _ _ _ (fun w h3 ⟨kvs, k, e1, e2, z⟩ => ⟨kvs, k, e1, e2, hq _ _ z⟩) hx z) hx z.2⟩) hx q⟩
  refine ⟨F, ρ, h, S, R, ho.mo _ _ _ _ _ _ (fun x h1 z => ?_) (fun _ _ z => z) q⟩
  intro F1 H1 v e1 S1 r
  obtain ⟨kv0, hk0⟩ := Option.isSome_iff_exists.mp z.1
  obtain ⟨a, vs, rfl, ha, rs⟩ := S1.dkOf r hk0
  refine ⟨a, rfl, .inl ⟨vs, .of ha⟩, F1, ρ, h1, S1, R.ext e1, he.mo _ _ _ _ _ _ (fun y h2 z => ?_) (fun _ _ z => LX.ext e1 z) z.2⟩
  intro F2 H2 vy e2 S2 ry
  refine ⟨F2, ρ, h2, S2, R.ext (e1.trans e2), hf.mo _ _ _ _ _ _ (fun w h3 z => ?_) (fun _ _ z => LX.ext (e1.trans e2) z) z⟩
  intro F3 H3 vw e3 S3 rw'
  obtain ⟨kvs, kk, ek, ey, z⟩ := z
  obtain ⟨a', vs', ea, ha', rs'⟩ := S3.dkOf (r.ext (e2.trans e3)) ek
  cases ea
  have hy := keyD_to (ry.ext e3) ey
  have e123 := e1.trans (e2.trans e3)
  rcases rs'.val kk with ⟨n1, n2⟩ | ⟨d, v, n1, n2, rv⟩
  · refine ⟨none, .inl ⟨vs', kk, .of ha', hy, n2.symm⟩, ?_⟩
    rw [n1] at z
    exact z F3 H3 _ e123 S3 rw'
  · refine ⟨some v, .inl ⟨vs', kk, .of ha', hy, n2.symm⟩, ?_⟩
    rw [n1] at z
    exact z F3 H3 _ e123 S3 rv
/-- d[k] -/
def wDGet (wo wi : WE) : WE := fun ρ h Q X => wo ρ h (fun x h1 => wi ρ h1 (fun y h2 => ∃ kvs k d, dkOf h2 x = some kvs ∧ keyD y = some k ∧ valD kvs k = some d ∧ Q d h2) X) X
theorem ae_dget (c : Cg gz X E k) (ho : AE X E o wo) (hi : AE X E i wi) (hs : NoSl i) : AE X E (.Subscript o i pos) (wDGet wo wi) := by
  refine ⟨PE.imp (pe_dget (hu_of c.room) ho.run hi.run hs) fun σ H Q ⟨F, ρ, h, S, R, q⟩ => ?_, fun ρ h Q Q' X X' hq hx q => ho.mo _ _ _ _ _ _ (fun x h1 z => hi.mo _ _ _ _ _ _ (fun y h2 ⟨kvs, k, d, e1, e2, e3, z⟩ => ⟨kvs, k, d, e1, e2, e3, hq _ _ z⟩) hx z) hx q⟩
  refine ⟨F, ρ, h, S, R, ho.mo _ _ _ _ _ _ (fun x h1 z => ?_) (fun _ _ z => z) q⟩
  intro F1 H1 v e1 S1 r
  refine ⟨F1, ρ, h1, S1, R.ext e1, hi.mo _ _ _ _ _ _ (fun y h2 z => ?_) (fun _ _ z => LX.ext e1 z) z⟩
  intro F2 H2 vy e2 S2 ry
  obtain ⟨kvs, kk, d, ek, ey, ed, z⟩ := z
  obtain ⟨a, vs, rfl, ha, rs⟩ := S2.dkOf (r.ext e2) ek
  rcases rs.val kk with ⟨n1, n2⟩ | ⟨d', v, n1, n2, rv⟩
  · rw [n1] at ed; cases ed
  · rw [n1] at ed; cases ed
    exact ⟨a, v, rfl, .inl ⟨vs, kk, .of ha, keyD_to ry ey, n2.symm⟩, z F2 H2 _ (e1.trans e2) S2 rv⟩
/-- k in d -/
def dDin (f : Bool → Bool) (y x : D) (h : AH) (Q : KD) : Prop := ∃ kvs k, dkOf h x = some kvs ∧ keyD y = some k ∧ Q (.bl (f (valD kvs k).isSome)) h
theorem at_din (c : Cg gz X E k) (hi : AE X E i wi) (ho : AE X E o wo) (hm : behindInMarks .In o = false := by rfl) : AT X E (.Compare i [.In] [o] pos) (wTest (wOp (dDin fun b => b) wi wo)) := by
  have P := pt_cmp (pos := pos) (pc_din (hu_of c.room) hi.run ho.run) hm
  refine ⟨PT.imp P fun σ H Q ⟨F, ρ, h, S, R, q⟩ => ?_, fun ρ h Q Q' X X' hq hx q => hi.mo _ _ _ _ _ _ (fun y h1 z => ho.mo _ _ _ _ _ _ (fun x h2 ⟨kvs, k, e1, e2, z⟩ => ⟨kvs, k, e1, e2, hq _ _ z⟩) hx z) hx q⟩
  refine ⟨F, ρ, h, S, R, hi.mo _ _ _ _ _ _ (fun y h1 z => ?_) (fun _ _ z => z) q⟩
  intro F1 H1 vy e1 S1 ry
  refine ⟨F1, ρ, h1, S1, R.ext e1, ho.mo _ _ _ _ _ _ (fun x h2 z => ?_) (fun _ _ z => LX.ext e1 z) z⟩
  intro F2 H2 vx e2 S2 rx
  obtain ⟨kvs, kk, ek, ey, z⟩ := z
  obtain ⟨a, vs, rfl, ha, rs⟩ := S2.dkOf rx ek
  have e : (valD kvs kk).isSome = (valV vs kk).isSome := by
    rcases rs.val kk with ⟨n1, n2⟩ | ⟨d', v, n1, n2, rv⟩ <;> rw [n1, n2] <;> rfl
  exact ⟨a, _, rfl, .inl ⟨vs, kk, .of ha, keyD_to (ry.ext e2) ey, rfl⟩, _, rfl, by rw [← e]; exact z F2 H2 (e1.trans e2) S2⟩
/-- d[k] = v -/
def wDput (wo wi wv : WE) : WS := fun D ρ h => wv ρ h (fun z h1 => wo ρ h1 (fun x h2 => wi ρ h2 (fun y h3 => ∃ a kvs k, x = .ref a ∧ h3 a = some (.dK kvs) ∧ keyD y = some k ∧ kvs.length < sizeLine ∧ D.nx ρ (up h3 a (.dK (putD kvs k z)))) D.ex) D.ex) D.ex
theorem as_dput (c : Cg gz X E k) (ho : AE X E o wo) (hi : AE X E i wi) (hv : AE X E value wv) (hs : swapsWith value (some (.Subscript o i pos')) pos.line X.env = pure false := by rfl) : AS X E (.Assign [.Subscript o i pos'] value pos) (wDput wo wi wv) := by
  refine ⟨PS.imp (ps_dput (hu_of c.room) ho.run hi.run hv.run hs) fun D σ H ⟨F, ρ, h, S, R, q⟩ => ?_, fun D D' ρ h l q => hv.mo _ _ _ _ _ _ (fun z h1 q => ho.mo _ _ _ _ _ _ (fun x h2 q => hi.mo _ _ _ _ _ _ (fun y h3 ⟨a, kvs, k, e1, e2, e3, e4, q⟩ => ⟨a, kvs, k, e1, e2, e3, e4, l.nx _ _ q⟩) l.ex q) l.ex q) l.ex q⟩
  refine ⟨F, ρ, h, S, R, hv.mo _ _ _ _ _ _ (fun z h1 q => ?_) (fun _ _ z => z) q⟩
  intro F1 H1 vz e1 S1 rz
  refine ⟨F1, ρ, h1, S1, R.ext e1, ho.mo _ _ _ _ _ _ (fun x h2 q => ?_) (fun _ _ z => LX.ext e1 z) q⟩
  intro F2 H2 vx e2 S2 rx
  refine ⟨F2, ρ, h2, S2, R.ext (e1.trans e2), hi.mo _ _ _ _ _ _ (fun y h3 q => ?_) (fun _ _ z => LX.ext (e1.trans e2) z) q⟩
  intro F3 H3 vy e3 S3 ry
  obtain ⟨a, kvs, kk, rfl, ea, ey, l, q⟩ := q
  have rx := rx.ext e3
  cases rx
  obtain ⟨_, u, hu, vs, rfl, rs⟩ := S3.ob _ _ ea
  have hy := keyD_to ry ey
  subst hy
  exact ⟨a, _, rfl, .inl ⟨vs, kk, hu, rfl, by rw [← rs.length]; exact l, rfl⟩, q F3 _ σ (e1.trans (e2.trans e3)) (S3.put ea (o := .dK (putD kvs kk z)) ⟨_, rfl, rs.put kk (rz.ext (e2.trans e3))⟩) (R.ext (e1.trans (e2.trans e3)))⟩

/-! ### sorted(d.items()), ints to ints -/
def pairD (e : Int × Int) : D := .tup [.int e.1, .int e.2]
def lexLe (e f : Int × Int) : Prop := e.1 < f.1 ∨ (e.1 = f.1 ∧ e.2 ≤ f.2)
def wSortIt (m : Bool) (wo : WE) : WE := fun ρ h Q X => wo ρ h (fun x h1 => ∃ (a : Addr) (es : List (Int × Int)), x = .ref a ∧ h1 a = some (.dK (es.map fun e : Int × Int => ((Sum.inl e.1 : Key), D.int e.2))) ∧ ∀ zs : List (Int × Int), zs.Perm es → zs.Pairwise lexLe → newL m (zs.map pairD) h1 Q) X
theorem repk_ints {K : PySem.W.Frag} {F : Hp} : ∀ {es : List (Int × Int)} {vs : List (Key × V)}, RepK K F (es.map fun e : Int × Int => ((Sum.inl e.1 : Key), D.int e.2)) vs → vs = es.map fun e => (Sum.inl e.1, V.int e.2)
  | [], _, .nil => rfl
  | e :: es, _, .cons r t => by cases r; rw [repk_ints t]; rfl
theorem ae_sortIt (m : Bool) {pn : Pos} (hm : X.mg "sorted" = none) (c : Cg gz X E k) (ho : AE X E o wo) (hg : Gl X "sorted" := by rfl)
    (hbase : attributeBase o "items" X.env (eval o X.env) = eval o X.env := by rfl)
    (hline : (apos.endLine == cpos.line) = true := by rfl)
    (hst : starEach [Expr.Call (.Attribute o "items" apos) [] [] cpos] X.env = (false, eval (.Call (.Attribute o "items" apos) [] [] cpos) X.env) :: starEach [] X.env := by rfl)
    (hpl : (backTo pos (starEach [] X.env)).any (·.1) = false := by rfl) :
    AE X E (.Call (.Name "sorted" pn) [.Call (.Attribute o "items" apos) [] [] cpos] [] pos) (wSortIt m wo) := by
  have P1 := pe_bm0 (cpos := cpos) (apos := apos) PySem.F.plainAttrs_dict PySem.F.slot_dict_items PySem.F.type_dict_items (mt_itemsV (X := X)) ho.run hbase hline
  have P2 := pe_callB (pos := pos) (p := pn) (cr_sortIt c.calm) hg hm PyProof.Rows.boot_sorted (pa_cons P1 pa_nil hst) (he := hst) (hpl := hpl)
  refine ⟨PE.imp P2 fun σ H Q ⟨F, ρ, h, S, R, q⟩ => ?_, fun ρ h Q Q' X X' hq hx q => ho.mo _ _ _ _ _ _ (fun x h1 ⟨a, es, e1, e2, z⟩ => ⟨a, es, e1, e2, fun zs p1 p2 => newL_mo hq (z zs p1 p2)⟩) hx q⟩
  refine ⟨F, ρ, h, S, R, ho.mo _ _ _ _ _ _ (fun x h1 z => ?_) (fun _ _ z => z) q⟩
  intro F1 H1 v e1 S1 r
  obtain ⟨a, es, rfl, ea, z⟩ := z
  cases r
  obtain ⟨_, u, hu, vs, rfl, rs⟩ := S1.ob _ _ ea
  rw [repk_ints rs] at hu
  refine ⟨.inr (.inr (.inl ⟨rfl, .inl ⟨_, hu⟩⟩)), a, _, rfl, rfl, hu, fun p hp => ?_⟩
  have na : a ≠ p := by rintro rfl; rw [hu] at hp; cases hp
  refine ⟨p, a, es, rfl, upd_same, by rw [upd_ne na]; exact hu, fun H' l ps sm hl nl perm pw hL hT => ?_⟩
  have sm1 : ∀ b o, H1 b = some o → H' b = some o := fun b o e => sm b o (by rw [upd_ne (by rintro rfl; rw [hp] at e; cases e)]; exact e)
  have hl1 : H1 l = none := by
    by_cases c : l = p
    · rw [c]; exact hp
    · rw [upd_ne c] at hl; exact hl
  have z := newL_mo (fun _ _ z => LQ.ext e1 z) (z _ perm pw)
  -- all that is new but the list
  obtain ⟨F2, x2, S2, g2, g3⟩ := S1.grow sm1 (fun b => decide (b ≠ l))
  have hT2 : ∀ z ∈ ps, F2 z.1 = some (.tup [.int z.2.1, .int z.2.2]) := fun z hz => by
    obtain ⟨n1, n2⟩ := nl z hz
    have n3 : H1 z.1 = none := by
      by_cases c : z.1 = p
      · rw [c]; exact hp
      · rw [upd_ne c] at n2; exact n2
    exact (g2 _ n3 (by simpa using n1)).trans (hT z hz)
  have rsT : ∀ {F3 : Hp} (qs : List (Addr × Int × Int)), (∀ z ∈ qs, F3 z.1 = some (.tup [.int z.2.1, .int z.2.2])) → Reps X.K F3 ((qs.map (·.2)).map pairD) (qs.map fun z => V.ref z.1) := by
    intro F3 qs
    induction qs with
    | nil => intro _; exact .nil
    | cons z qs ih => intro hz; exact .cons (.tup (.of (hz z (List.mem_cons_self ..))) (.cons (.int _) (.cons (.int _) .nil))) (ih fun w hw => hz w (List.mem_cons_of_mem _ hw))
  have f2 : F2 l = none := by
    cases e : F2 l with
    | none => rfl
    | some o => exact absurd e (g3 l hl1 (by simp) o)
  obtain ⟨_, hl2⟩ := S1.free hl1
  cases m with
  | true =>
    refine z l hl2 F2 H' _ x2 ⟨fun b o e => S2.fz _ _ e, fun b o e => ?_⟩ (.ref l)
    by_cases c : b = l
    · subst c; rw [up_same] at e; cases e
      exact ⟨f2, _, hL, _, rfl, rsT ps hT2⟩
    · rw [up_ne c] at e; exact S2.ob _ _ e
  | false =>
    have x3 : Ext F2 (upd F2 l (.lst (ps.map fun z => V.ref z.1))) := ext_upd f2
    refine z (upd F2 l (.lst (ps.map fun z => V.ref z.1))) H' _ (x2.trans x3) ⟨fun b o e => ?_, fun b o e => ?_⟩ (.lst upd_same (rsT ps fun z hz => x3 _ _ (hT2 z hz)))
    · by_cases c : b = l
      · subst c; rw [upd_same] at e; cases e; exact hL
      · rw [upd_ne c] at e; exact S2.fz _ _ e
    · obtain ⟨f, u, hu, r⟩ := S2.ob _ _ e
      refine ⟨?_, u, hu, r.ext x3⟩
      have c : b ≠ l := by rintro rfl; rw [hl2] at e; cases e
      rw [upd_ne c]; exact f
end
end DL
namespace PySem
set_option maxHeartbeats 1000000 in
theorem dl_meets_enum1 {v : Value} {o : Obj} {H : Heap → Prop} (B : Begins v o H) :
    Meets (Builtin.«enumerate.__new__» ⟨[.type "enumerate", v], []⟩) (fun _ R s => H s.heap ∧
      R (.ok (.ret (.ref (s.heap.push o).objs.size))) { s with heap := (s.heap.push o).push { cls := .type "enumerate", data := .fields #[.none, .bool false, .ref s.heap.objs.size, rawInt 0, .none, .none] } }) :=
  .of_wp fun prog w A R s h => by
    obtain ⟨hp, gg, dd, tk, os⟩ := s; obtain ⟨h1, h⟩ := h
    have se := sub_enumerate
    have go : ∀ {A' : Around} {E : Value → Shared → Prop} {Q : Value → Shared → Prop}, Q (.ref hp.objs.size) ⟨hp.push o, gg, dd, tk, os⟩ → wpAny (model prog w) A' (pyIter v) Q E ⟨hp, gg, dd, tk, os⟩ :=
      fun q => B.iter prog w _ _ ⟨hp, gg, dd, tk, os⟩ _ h1 q
    wp_walk using go
    refine wpAny_stack_any fun st => wpAny_pure ?_
    split
    · rename_i c _ _ _ _ _
      cases (c == Value.type "enumerate") <;> (wp_walk using go; exact ⟨_, rfl, h⟩)
    · wp_walk using go
      exact ⟨_, rfl, h⟩
section
variable {prog : Program} {w : World} {A : Around} {E : Value → Shared → Prop} {s : Shared}
theorem dl_call_enum {v : Value} {o : Obj} {H : Heap → Prop} {Q : Value → Shared → Prop} (B : Begins v o H) (h1 : H s.heap)
    (h : ∀ h', IsEnum h' (s.heap.objs.size + 1) s.heap.objs.size 0 .none → h'.get? s.heap.objs.size = some o → (∀ b o, s.heap.get? b = some o → h'.get? b = some o) → Q (.ref (s.heap.objs.size + 1)) { s with heap := h' }) :
    wpAny (model prog w) A (call (.type "enumerate") [v]) Q E s := by
  refine callType_new F.called_enumerate (by decide) (F.typeCall_enumerate_1 _) (F.newCall_enumerate_1 _) (fun obj => F.args_object_init_2 obj _) F.entry_enumerate_new (dl_meets_enum1 B) ⟨h1, ?_⟩
  have z : (s.heap.push o).objs.size = s.heap.objs.size + 1 := Heap.size_push ..
  have he := Heap.get?_push_size (s.heap.push o) (o := { cls := .type "enumerate", data := .fields #[.none, .bool false, .ref s.heap.objs.size, rawInt 0, .none, .none] }) rfl
  show _ ∧ _
  rw [z] at he ⊢
  exact ⟨⟨_, he, rfl⟩, h _ he (Heap.get?_push_of_some _ (Heap.get?_push_size _ B.free)) fun b o x => Heap.get?_push_of_some _ (Heap.get?_push_of_some _ x)⟩
end
end PySem

namespace DL
open PySem PySem.Spec L2 C8

/-! ### enumerate(tuple) -/
def Iet (K : PySem.W.Frag) (a : Addr) : It :=
  ⟨fun i H => ∃ (xs : List V) (x : V), SqT K H a xs ∧ xs[i]? = some x, fun i H v H' => ∃ T x, v = .ref T ∧ H T = none ∧ H' = upd H T (.tup [.int (i : Nat), x]) ∧ ∀ xs, SqT K H a xs → xs[i]? = some x, fun i H => ∃ xs : List V, SqT K H a xs ∧ xs.length = i⟩
theorem turn_et {P : Program} {w : World} {K : PySem.W.Frag} {elts : List Expr} {kk : Nat} {tpos : Pos} (a e it : Addr) :
    Turn P w K (.Tuple elts kk tpos) (Iet K a) [e, it] e (fun i h => (∃ old, IsEnum h e it ((i : Nat) : Int) old) ∧ h.IsTupleIter it a i ∧ e ≠ it ∧ e ≠ a ∧ a ≠ it) where
  mem := by simp
  obj := fun i h st b hb => by
    obtain ⟨⟨old, he⟩, ⟨o, ho, hc, hd⟩, _⟩ := st
    rcases (by simpa using hb : b = e ∨ b = it) with z | z <;> subst z
    · exact ⟨_, he, fun v q => nomatch q⟩
    · exact ⟨o, ho, fun v q => by rw [hd] at q; cases q⟩
  keep := fun i h h' st k => let ⟨⟨old, he⟩, hi, n⟩ := st; ⟨⟨old, k e (by simp) _ he⟩, hi.at fun o q => k it (by simp) o q, n⟩
  item := by
    intro X hP hw hK hc i pins s σ H E I hf st hg
    subst hP hw hK
    obtain ⟨⟨old, he⟩, hit, n1, n2, n3⟩ := st
    obtain ⟨xs, x, hq, hx⟩ := hg
    obtain ⟨its, rv, p, hz⟩ := I.tuple hq
    obtain ⟨u, hu, ru⟩ := rv.get hx
    have le : e < s.heap.objs.size := Heap.lt_size he
    have li : it < s.heap.objs.size := by obtain ⟨_, q, _⟩ := hit; exact Heap.lt_size q
    have pT : s.heap.IsTuple a its.toArray := p
    refine wpAny_pyNext_enum_itemD (D := Draws.tuple (A := X.A.in1) (show X.A.in1.handled = none from I.ok.hd hc) it a n3 its.toArray) he ⟨hit, pT⟩ (by obtain ⟨l, _⟩ := List.getElem?_eq_some_iff.mp hu; simpa using l) n1 (by simp [n1, n2]) fun u' h' tk hu' ho hs' hT hsz hk => ?_
    have eu : u' = u := by
      have : its[i]? = some u' := by simpa using hu'
      rw [hu] at this; exact (Option.some.inj this).symm
    subst eu
    refine ⟨_, rfl, wpAny_letOwnedTupleGo_enum (s := { s with heap := h', toks := tk + 1 }) ho fun h'' he' sb => ?_⟩
    have hT2 := (sb.2 _ (Nat.ne_of_gt le)).trans hT
    have new : ObjOk X.prog X.w (upd H s.heap.objs.size (.tup [.int (i : Nat), x])) h'' s.heap.objs.size (.tup [.int (i : Nat), x]) :=
      ⟨by show 2 ≤ sizeLine; decide, [.int i tk, u'], .cons ⟨_, rfl⟩ (.cons ru .nil), ⟨_, hT2, rfl, _, rfl⟩⟩
    have I1 : Inv X pins σ (upd H s.heap.objs.size (.tup [.int (i : Nat), x])) { s with heap := h'', toks := tk + 1 } :=
      I.turnedNew (ch := [e, it]) (fun b ob hb q => (sb.2 b (fun z => hb (by simp [z]))).trans (hk b ob (fun z => hb (by simp [z])) (fun z => hb (by simp [z])) q)) hf (Nat.le_refl _) new
    refine ⟨.ref s.heap.objs.size, _, I1, rfl, ⟨_, x, rfl, I.hok.fresh (Nat.le_refl _), rfl, fun ys hy => by rw [I.tuple_inj hy hq]; exact hx⟩, ⟨⟨u', ?_⟩, hs'.1.at fun o q => (sb.2 it (Ne.symm n1)).trans q, n1, n2, n3⟩, fun b hb => ?_⟩
    · rw [show ((i + 1 : Nat) : Int) = (i : Int) + 1 by omega]; exact he'
    · have hb' : b < s.heap.objs.size := by
        rcases (by simpa using hb : b = e ∨ b = it) with z | z <;> subst z <;> assumption
      rw [upd_ne (Nat.ne_of_lt hb')]
      exact (hf b hb).1
  done := by
    intro X hP hw hK hc i pins s σ H E I hf st hg
    subst hP hw hK
    obtain ⟨⟨old, he⟩, hit, n1, n2, n3⟩ := st
    obtain ⟨xs, hq, hx⟩ := hg
    obtain ⟨its, rv, p, hz⟩ := I.tuple hq
    obtain ⟨f0, f1, f2, f3, f4, f5⟩ := hf it (by simp)
    have pT : s.heap.IsTuple a its.toArray := p
    have hl : its.toArray.size = i := by have := rv.length; simp; omega
    exact wpAny_pyNext_enum_endD (Draws.tuple (A := X.A.in1) (show X.A.in1.handled = none from I.ok.hd hc) it a n3 its.toArray) he ⟨by rw [hl]; exact hit, pT⟩ fun h' eb => ⟨rfl, I.turned (t' := s.toks) (fun b o hb q => eb b o hb q) f0 f1 f3 f4 f5⟩
  self := fun A i s Q E st h => let ⟨⟨_, he⟩, _⟩ := st; wpAny_pyIter_enum he h
def vEnumT (K : PySem.W.Frag) (ta : TA) : TI := fun σ H R => ta σ H fun vs H1 => ∃ a xs, vs = [.ref a] ∧ SqT K H1 a xs ∧ R (Iet K a) H1
theorem pi_et {X : Cx} {e : Expr} {ta : TA} {p pos tpos : Pos} {elts : List Expr} {kk : Nat} (hg : Gl X "enumerate") (hm : X.mg "enumerate" = none) (ha : PA X [e] ta) (hs : starEach [e] X.env = [(false, eval e X.env)] := by rfl) :
    PI X (.Tuple elts kk tpos) (.Call (.Name "enumerate" p) [e] [] pos) (vEnumT X.K ta) := by
  refine ⟨fun pins s σ H R I h => ?_⟩
  refine PyProof.Rows.Call_ (ld_blt I hg hm PyProof.Rows.boot_enumerate (PyProof.Rows.callWith_type1 (thn (ha.run pos pins s σ H _ I h) fun us s1 ⟨vs, H1, I1, r1, q1⟩ => ?_) hs rfl))
  obtain ⟨a, xs, rfl, hq, q⟩ := q1
  cases r1 with
  | cons r rr =>
    cases rr
    cases r
    obtain ⟨its, rv, pp, hz⟩ := I1.tuple hq
    have pT : s1.heap.IsTuple a its.toArray := pp
    have la : a < s1.heap.objs.size := by obtain ⟨_, x, _⟩ := pT; exact Heap.lt_size x
    refine dl_call_enum (begins_tuple a its.toArray) pT fun h' he hi hk => wpAny_pyIter_enum he ?_
    refine ⟨s1.heap.objs.size + 1, [s1.heap.objs.size + 1, s1.heap.objs.size], _, _, H1, rfl, I1.kept (t' := s1.toks) hk, turn_et a (s1.heap.objs.size + 1) s1.heap.objs.size, ⟨⟨.none, he⟩, ⟨_, hi, rfl, rfl⟩, Nat.succ_ne_self _, Nat.ne_of_gt (Nat.lt_succ_of_lt la), Nat.ne_of_lt la⟩, fun b hb => ?_, q⟩
    have hle : s1.heap.objs.size ≤ b := by
      rcases (by simpa using hb : b = s1.heap.objs.size + 1 ∨ b = s1.heap.objs.size) with z | z
      · rw [z]; exact Nat.le_succ _
      · rw [z]; exact Nat.le_refl _
    exact I1.fpOk hle (I1.hok.fresh hle)

/-! ### their readings as data -/
def numD (xs : List D) : List D := (List.range xs.length).zipWith (fun i x => .tup [.int (i : Nat), x]) xs
theorem numD_len {xs : List D} : (numD xs).length = xs.length := by simp [numD]
theorem numD_get {xs : List D} {i : Nat} {d : D} (h : (numD xs)[i]? = some d) : ∃ x, xs[i]? = some x ∧ d = .tup [.int (i : Nat), x] := by
  unfold numD at h
  rw [List.getElem?_zipWith] at h
  by_cases c : i < xs.length
  · rw [List.getElem?_range c, List.getElem?_eq_getElem c] at h
    cases h
    exact ⟨_, List.getElem?_eq_getElem c, rfl⟩
  · rw [List.getElem?_eq_none (l := List.range _) (by simpa using c)] at h
    simp at h
section
variable {K : PySem.W.Frag} {F : Hp} {a : Addr} {xs : List D} {vs : List V}
theorem ItD.numT (q : SqT K F a vs) (r : Reps K F xs vs) : ItD K F (Iet K a) (numD xs) (fun _ => True) where
  go := fun {i F' h0 H} e S s l => by
    rw [numD_len] at l
    obtain ⟨v, hv, _⟩ := r.get (List.getElem?_eq_getElem l)
    exact ⟨vs, v, sqt_of S.fz (e.sqt q), hv⟩
  stop := fun {i F' h0 H} e S s l =>
    by exact ⟨vs, sqt_of S.fz (e.sqt q), by rw [← r.length, ← numD_len]; exact l⟩
  yld := fun {i F' h0 H x H' d} e S s y hd => by
    obtain ⟨T, v, rfl, hT, rfl, y⟩ := y
    obtain ⟨dx, hx, rfl⟩ := numD_get hd
    obtain ⟨v', hv, rv⟩ := r.get hx
    have ey := y vs (sqt_of S.fz (e.sqt q))
    rw [hv] at ey
    obtain rfl := Option.some.inj ey
    have x1 := ext_upd (o := HO.tup [V.int (i : Nat), v']) (S.free hT).1
    exact ⟨_, x1, S.newF hT _, .tup (.of upd_same) (.cons (.int _) (.cons ((rv.ext e).ext x1) .nil))⟩
theorem ItD.numL {st : AH → Prop} (h : ∀ {F' h H}, Ext F F' → Sim K F' h H → st h → ∃ vs, SqL K H a vs ∧ Reps K F' xs vs) : ItD K F (Ite K a) (numD xs) st where
  go := fun {i F' h0 H} e S s l => by
    rw [numD_len] at l
    obtain ⟨vs, q, r⟩ := h e S s
    obtain ⟨v, hv, _⟩ := r.get (List.getElem?_eq_getElem l)
    exact ⟨vs, v, q, hv⟩
  stop := fun {i F' h0 H} e S s l => by
    obtain ⟨vs, q, r⟩ := h e S s
    exact ⟨vs, q, by rw [← r.length, ← numD_len]; exact Nat.le_of_eq l⟩
  yld := fun {i F' h0 H x H' d} e S s y hd => by
    obtain ⟨T, v, rfl, hT, rfl, y⟩ := y
    obtain ⟨dx, hx, rfl⟩ := numD_get hd
    obtain ⟨vs, q, r⟩ := h e S s
    obtain ⟨v', hv, rv⟩ := r.get hx
    have ey := y vs q
    rw [hv] at ey
    obtain rfl := Option.some.inj ey
    have x1 := ext_upd (o := HO.tup [V.int (i : Nat), v']) (S.free hT).1
    exact ⟨_, x1, S.newF hT _, .tup (.of upd_same) (.cons (.int _) (.cons (rv.ext x1) .nil))⟩
def stepD (lo c : Int) (n : Nat) : List D := (List.range n).map fun i => D.int (lo + (i : Nat) * c)
theorem stepD_len {lo c : Int} {n : Nat} : (stepD lo c n).length = n := by simp [stepD]
theorem stepD_get {lo c : Int} {n i : Nat} {d : D} (h : (stepD lo c n)[i]? = some d) : d = .int (lo + (i : Nat) * c) ∧ i < n := by
  unfold stepD at h
  rw [List.getElem?_map] at h
  by_cases l : i < n
  · rw [List.getElem?_range l] at h
    cases h; exact ⟨rfl, l⟩
  · rw [List.getElem?_eq_none (by simpa using l)] at h; cases h
theorem ItD.step {lo c : Int} {n : Nat} : ItD K F (Itc lo c n) (stepD lo c n) (fun _ => True) where
  go := fun {i F' h0 H} e S s l => by rw [stepD_len] at l; exact l
  stop := fun {i F' h0 H} e S s l => by rw [stepD_len] at l; exact Nat.le_of_eq l
  yld := fun {i F' h0 H x H' d} e S s y hd => by
    obtain ⟨rfl, rfl⟩ := y
    obtain ⟨rfl, _⟩ := stepD_get hd
    exact ⟨F', .refl _, S, .int _⟩
end
section
variable {X : Cx} {E : XK} {tg e : Expr} {wl : WA} {p pos tpos : Pos} {elts : List Expr} {kk : Nat}
/-- enumerate of a tuple, or of a list as it stands -/
def iNum (wl : WA) : WI := fun ρ h R X => wl ρ h (fun ds h1 => match ds with
  | [.tup xs] => R (numD xs) (fun _ => True) h1
  | _ => False) X
def iNumL (wl : WA) : WI := fun ρ h R X => wl ρ h (fun ds h1 => match ds with
  | [.lst xs] => R (numD xs) (fun _ => True) h1
  | [.ref a] => ∃ xs, h1 a = some (.lst xs) ∧ R (numD xs) (fun h => h a = some (.lst xs)) h1
  | _ => False) X
theorem ai_num (hm : X.mg "enumerate" = none) (ha : AA X E [e] wl) (hg : Gl X "enumerate" := by rfl) (hs : starEach [e] X.env = [(false, eval e X.env)] := by rfl) : AI X E (.Tuple elts kk tpos) (.Call (.Name "enumerate" p) [e] [] pos) (iNum wl) := by
  refine ⟨PI.imp (pi_et hg hm ha.run hs) fun σ H R ⟨F, ρ, g, S, Rr, q⟩ => ?_, fun ρ h Q Q' X X' hq hx q => ha.mo _ _ _ _ _ _ (fun ds h1 z => ?_) hx q⟩
  · refine ⟨F, ρ, g, S, Rr, ha.mo _ _ _ _ _ _ (fun ds h1 z => ?_) (fun _ _ z => z) q⟩
    intro F1 H1 vs e1 S1 rs
    split at z
    · cases rs with
      | cons r rs =>
        cases rs
        cases r with
        | @tup a xs us hf rs => exact ⟨a, us, rfl, sqt_of S1.fz hf, z F1 H1 _ e1 S1 (ItD.numT hf rs)⟩
    · exact z.elim
  · split at z
    · exact hq _ _ _ z
    · exact z.elim
theorem ai_numL (hm : X.mg "enumerate" = none) (ha : AA X E [e] wl) (hg : Gl X "enumerate" := by rfl) (hs : starEach [e] X.env = [(false, eval e X.env)] := by rfl) : AI X E (.Tuple elts kk tpos) (.Call (.Name "enumerate" p) [e] [] pos) (iNumL wl) := by
  refine ⟨PI.imp (pi_enum hg hm ha.run hs) fun σ H R ⟨F, ρ, g, S, Rr, q⟩ => ?_, fun ρ h Q Q' X X' hq hx q => ha.mo _ _ _ _ _ _ (fun ds h1 z => ?_) hx q⟩
  · refine ⟨F, ρ, g, S, Rr, ha.mo _ _ _ _ _ _ (fun ds h1 z => ?_) (fun _ _ z => z) q⟩
    intro F1 H1 vs e1 S1 rs
    split at z
    · cases rs with
      | cons r rs =>
        cases rs
        cases r with
        | @lst a xs us hf rs => exact ⟨a, us, rfl, .of (S1.fz _ _ hf), z F1 H1 _ e1 S1 (ItD.numL fun {F' h0 H0} e S _ => ⟨us, .of (S.fz _ _ (e _ _ hf)), rs.ext e⟩)⟩
    · rename_i a
      obtain ⟨xs, hx, z⟩ := z
      cases rs with
      | cons r rs =>
        cases rs
        cases r
        obtain ⟨_, u, hu, us, rfl, ru⟩ := S1.ob _ _ hx
        refine ⟨a, us, rfl, .of hu, z F1 H1 _ e1 S1 (ItD.numL fun {F' h0 H0} e S st => ?_)⟩
        obtain ⟨_, u', hu', vs', rfl, rs'⟩ := S.ob _ _ st
        exact ⟨vs', .of hu', rs'⟩
    · exact z.elim
  · split at z
    · exact hq _ _ _ z
    · obtain ⟨xs, hx, z⟩ := z
      exact ⟨xs, hx, hq _ _ _ z⟩
    · exact z.elim
def iRng3 (wl : WA) : WI := fun ρ h R X => wl ρ h (fun ds h1 => match ds with
  | [.int i, .int j, .int c] => ∃ n, RgC i j c n ∧ R (stepD i c n) (fun _ => True) h1
  | _ => False) X
theorem ai_rng3 {a b c : Expr} (hm : X.mg "range" = none) (ha : AA X E [a, b, c] wl) (hg : Gl X "range" := by rfl) (hs : starEach [a, b, c] X.env = (false, eval a X.env) :: starEach [b, c] X.env := by rfl) (hpl : (backTo pos (starEach [b, c] X.env)).any (·.1) = false := by rfl) :
    AI X E tg (.Call (.Name "range" p) [a, b, c] [] pos) (iRng3 wl) := by
  refine ⟨PI.imp (pi_range3 hg hm ha.run hs hpl) fun σ H R ⟨F, ρ, g, S, Rr, q⟩ => ?_, fun ρ h Q Q' X X' hq hx q => ha.mo _ _ _ _ _ _ (fun ds h1 z => ?_) hx q⟩
  · refine ⟨F, ρ, g, S, Rr, ha.mo _ _ _ _ _ _ (fun ds h1 z => ?_) (fun _ _ z => z) q⟩
    intro F1 H1 vs e1 S1 rs
    split at z
    · obtain ⟨n, c, z⟩ := z
      cases rs with
      | cons r rs =>
        cases r
        cases rs with
        | cons r rs =>
          cases r
          cases rs with
          | cons r rs => cases rs; cases r; exact ⟨_, _, _, n, rfl, c, z F1 H1 _ e1 S1 ItD.step⟩
    · exact z.elim
  · split at z
    · obtain ⟨n, c, z⟩ := z
      exact ⟨n, c, hq _ _ _ z⟩
    · exact z.elim
end
end DL
namespace DL
open PySem PySem.Spec L2 C8

/-! ### x in (a, b): flat data -/
def flatD : D → Bool
  | .non => true
  | .bl _ => true
  | .int _ => true
  | .str _ => true
  | _ => false
def eqFD : D → D → Bool
  | .non, .non => true
  | .bl a, .bl b => a == b
  | .bl a, .int b => (if a then 1 else 0) == b
  | .int a, .bl b => a == (if b then 1 else 0)
  | .int a, .int b => a == b
  | .str a, .str b => a == b
  | _, _ => false
def inD (x : D) (ys : List D) : Bool := ys.any fun y => eqFD y x
def dIn (neg : Bool) (x y : D) (h : AH) (Q : KD) : Prop := ∃ ys, seqOf h y = some ys ∧ flatD x = true ∧ ys.all flatD = true ∧ Q (.bl (if neg then !inD x ys else inD x ys)) h
theorem flatV_of {K : PySem.W.Frag} {F : Hp} {d : D} {v : V} (r : Rep K F d v) (f : flatD d = true) : flatV v = true := by
  cases r <;> first | rfl | cases f
theorem eqV_of {K : PySem.W.Frag} {F : Hp} {d e : D} {v w : V} (r : Rep K F d v) (q : Rep K F e w) (f : flatD d = true) (g : flatD e = true) : eqV v w = eqFD d e := by
  cases r <;> first | (exact absurd f Bool.false_ne_true) | (cases q <;> first | rfl | (exact absurd g Bool.false_ne_true))
theorem inV_of {K : PySem.W.Frag} {F : Hp} {d : D} {v : V} (r : Rep K F d v) (f : flatD d = true) : ∀ {xs : List D} {vs : List V}, Reps K F xs vs → xs.all flatD = true → vs.all flatV = true ∧ inV v vs = inD d xs
  | _, _, .nil, _ => ⟨rfl, rfl⟩
  | _, _, .cons q t, g => by
    rw [List.all_cons, Bool.and_eq_true] at g
    obtain ⟨h1, h2⟩ := inV_of r f t g.2
    refine ⟨by rw [List.all_cons, flatV_of q g.1, h1]; rfl, ?_⟩
    show (List.any _ _) = (List.any _ _)
    rw [List.any_cons, List.any_cons, eqV_of q r g.1 f]
    exact congrArg _ h2
theorem dIn_ok {K : PySem.W.Frag} {neg : Bool} : OpD K (rIn K neg) (dIn neg) where
  to := by
    intro F h H x y vx vy Q S rx ry q
    obtain ⟨ys, e, f, g, q⟩ := q
    obtain ⟨a, vs, rfl, hq, rs⟩ := S.seqOf ry e
    obtain ⟨h1, h2⟩ := inV_of rx f rs g
    exact ⟨a, vs, rfl, hq, flatV_of rx f, h1, by rw [h2]; exact q.at S (.bl _)⟩
  mo := fun hq ⟨ys, e, f, g, q⟩ => ⟨ys, e, f, g, hq _ _ q⟩
section
variable {X : Cx} {E : XK} {k : Nat} {a b e : Expr} {es : List Expr} {wa wb wx : WE} {wl wk : WA} {pos kpos : Pos} {kws : List Keyword} {nm : Option Str}
theorem ae_in (ha : AE X E a wa) (hb : AE X E b wb) (hm : behindInMarks .In b = false := by rfl) : AE X E (.Compare a [.In] [b] pos) (wOp (dIn false) wa wb) := ae_cmp dIn_ok op_in_seq ha hb hm
theorem ae_notin (ha : AE X E a wa) (hb : AE X E b wb) (hm : behindInMarks .NotIn b = false := by rfl) : AE X E (.Compare a [.NotIn] [b] pos) (wOp (dIn true) wa wb) := ae_cmp dIn_ok op_notIn_seq ha hb hm
theorem at_in (ha : AE X E a wa) (hb : AE X E b wb) (hm : behindInMarks .In b = false := by rfl) : AT X E (.Compare a [.In] [b] pos) (wTest (wOp (dIn false) wa wb)) := at_cmp dIn_ok op_in_seq ha hb hm
theorem at_notin (ha : AE X E a wa) (hb : AE X E b wb) (hm : behindInMarks .NotIn b = false := by rfl) : AT X E (.Compare a [.NotIn] [b] pos) (wTest (wOp (dIn true) wa wb)) := at_cmp dIn_ok op_notIn_seq ha hb hm

/-! ### keywords -/
structure AK (X : Cx) (E : XK) (kws : List Keyword) (w : WA) : Prop where
  run : PK X kws (tA X.K E w)
  mo : MoA w
theorem PK.imp {t t' : TA} (p : PK X kws t) (h : ∀ σ H Q, t' σ H Q → t σ H Q) : PK X kws t' := ⟨fun pos pins s σ H Q I q => p.run pos pins s σ H Q I (h _ _ _ q)⟩
theorem ak_nil : AK X E [] wNil := ⟨PK.imp pk_nil fun σ H Q ⟨F, ρ, g, S, R, q⟩ => q F H [] (.refl F) S .nil, fun ρ h Q Q' X X' hq hx q => hq _ _ q⟩
theorem ak_cons (ha : AE X E e wx) (hr : AK X E kws wk) : AK X E (⟨nm, e, kpos⟩ :: kws) (wCons wx wk) := by
  refine ⟨PK.imp (pk_cons ha.run hr.run) fun σ H Q ⟨F, ρ, g, S, R, q⟩ => ?_, fun ρ h Q Q' X X' hq hx q => ha.mo _ _ _ _ _ _ (fun x h1 z => hr.mo _ _ _ _ _ _ (fun xs h2 z => hq _ _ z) hx z) hx q⟩
  refine ⟨F, ρ, g, S, R, ha.mo _ _ _ _ _ _ (fun x h1 z => ?_) (fun _ _ z => z) q⟩
  intro F1 H1 v e1 S1 r
  refine ⟨F1, ρ, h1, S1, R.ext e1, hr.mo _ _ _ _ _ _ (fun xs h2 z => ?_) (fun _ _ z => LX.ext e1 z) z⟩
  intro F2 H2 vs e2 S2 rs
  exact z F2 H2 _ (e1.trans e2) S2 (.cons (r.ext e2) rs)
/-- f(k = b, ..) -/
theorem ae_callK0 {m j : Nat} {ks : List Str} {gg : List D → List D → List D} {S : FSpec} {x : Str} {p : Pos} (c : Cg gz X E k) (C : Cal gy X.prog X.w X.K X.mg X.base x j 0 ks gg S) (hj : j ≤ k) (hz : gy = true → gz = true) (hkw : AK X E kws wk) (hl : ks.length = m := by rfl)
    (hg : Gl X x := by rfl) (hall : (backToKw pos (keywordEach kws X.env)).all (·.1.isSome) = true := by rfl) (hks : (backToKw pos (keywordEach kws X.env)).filterMap (·.1) = ks := by rfl) (hdb : (x == ("__debug__" : Str)) = false := by decide)
    (hpl : ((backTo pos (starEach [] X.env)).any (·.1) || (backToKw pos (keywordEach kws X.env)).any (·.1.isNone)) = false := by rfl) : AE X E (.Call (.Name x p) [] kws pos) (wCall S 0 m gg wNil wk) := by
  obtain ⟨f, fd, ps, hm, hk, G, B⟩ := C.ex
  refine ⟨⟨fun pins s σ H Q I hq => ?_⟩, fun ρ h0 Q Q' X X' hq hx q => hkw.mo _ _ _ _ _ _ (fun zs h1 q1 => ⟨q1.1, q1.2.1, G.mo _ _ _ _ _ _ hq hx q1.2.2⟩) hx q⟩
  obtain ⟨F, ρ, g, S0, R, q⟩ := hq
  refine wpAny_Call_Name_kw (ld_glob I hg hm ?_ hdb)
  refine PySem.W.callWith_KW0 (h₀ := X.base) I.ok.mod.kin hk hall
    (thn (hkw.run.run pos pins s σ H (fun ys H1 => ∃ F1 h1 zs, Sim X.K F1 h1 H1 ∧ Reps X.K F1 zs ys ∧ zs.length = m ∧ S (gg [] zs) h1 (LQ X.K F1 Q) (LX X.K F1 E)) I
      ⟨F, ρ, g, S0, R, hkw.mo _ _ _ _ _ _ (fun zs h1 q1 F1 H1 vs e1 S1 rs => ⟨F1, h1, zs, S1, rs, q1.2.1, G.mo _ _ _ _ _ _ (fun _ _ z => LQ.ext e1 z) (fun _ _ z => LX.ext e1 z) q1.2.2⟩) (fun _ _ z => z) q⟩) fun ws s1 hh => ?_) hpl
  obtain ⟨ys, H1, I1, r1, F1, h1, zs, S1, rs, l, q1⟩ := hh
  refine ⟨I1.kIn, ?_⟩
  rw [hks]
  obtain ⟨xs, ts, rx, rt, bt⟩ := B.to s1 F1 [] zs [] ys [] ws I1.kIn rfl (l.trans hl.symm) .nil .nil rs r1
  exact wpAny_call (codeAny_mono (run_g (c.mono hj) G hz I1 bt rt ⟨F1, _, h1, S1, rx, q1⟩) fun r s' hr => by
    match r, hr with
    | .error _, hr => exact hr
    | .ok (.ret _), hr => exact hr)
/-- f(a, .., k = b, ..) -/
theorem ae_callK {n m j : Nat} {ks : List Str} {gg : List D → List D → List D} {S : FSpec} {x : Str} {p : Pos} (c : Cg gz X E k) (C : Cal gy X.prog X.w X.K X.mg X.base x j n ks gg S) (hj : j ≤ k) (hz : gy = true → gz = true) (ha : AA X E (e :: es) wl) (hkw : AK X E kws wk) (hl : ks.length = m := by rfl)
    (hg : Gl X x := by rfl) (hall : (backToKw pos (keywordEach kws X.env)).all (·.1.isSome) = true := by rfl) (hks : (backToKw pos (keywordEach kws X.env)).filterMap (·.1) = ks := by rfl) (hdb : (x == ("__debug__" : Str)) = false := by decide)
    (he : starEach (e :: es) X.env = (false, eval e X.env) :: starEach es X.env := by rfl)
    (hpl : ((backTo pos (starEach (e :: es) X.env)).any (·.1) || (backToKw pos (keywordEach kws X.env)).any (·.1.isNone)) = false := by rfl) : AE X E (.Call (.Name x p) (e :: es) kws pos) (wCall S n m gg wl wk) := by
  obtain ⟨f, fd, ps, hm, hk, G, B⟩ := C.ex
  refine ⟨⟨fun pins s σ H Q I hq => ?_⟩, fun ρ h0 Q Q' X X' hq hx q => ha.mo _ _ _ _ _ _ (fun ds h1 q1 => hkw.mo _ _ _ _ _ _ (fun zs h1 q1 => ⟨q1.1, q1.2.1, G.mo _ _ _ _ _ _ hq hx q1.2.2⟩) hx q1) hx q⟩
  obtain ⟨F, ρ, g, S0, R, q⟩ := hq
  refine wpAny_Call_Name_kw (ld_glob I hg hm ?_ hdb)
  refine PySem.W.callWith_KW (h₀ := X.base) I.ok.mod.kin hk hall (thn (ha.run.run pos pins s σ H (fun vs H1 => ∃ F1 h1 ds, Sim X.K F1 h1 H1 ∧ EnvR X.K F1 ρ σ ∧ Reps X.K F1 ds vs ∧ wk ρ h1 (fun zs h2 => ds.length = n ∧ zs.length = m ∧ S (gg ds zs) h2 (LQ X.K F1 Q) (LX X.K F1 E)) (LX X.K F1 E)) I
      ⟨F, ρ, g, S0, R, ha.mo _ _ _ _ _ _ (fun ds h1 q1 F1 H1 vs e1 S1 rs => ⟨F1, h1, ds, S1, R.ext e1, rs, hkw.mo _ _ _ _ _ _ (fun zs h2 q2 => ⟨q2.1, q2.2.1, G.mo _ _ _ _ _ _ (fun _ _ z => LQ.ext e1 z) (fun _ _ z => LX.ext e1 z) q2.2.2⟩) (fun _ _ z => LX.ext e1 z) q1⟩) (fun _ _ z => z) q⟩) fun us s1 hh => ?_) hpl he
  obtain ⟨vs, H1, I1, r1, F1, h1, ds, S1, R1, rs, q1⟩ := hh
  refine thn (hkw.run.run pos pins s1 σ H1 (fun ys H2 => ∃ F2 h2 zs, Ext F1 F2 ∧ Sim X.K F2 h2 H2 ∧ Reps X.K F2 zs ys ∧ ds.length = n ∧ zs.length = m ∧ S (gg ds zs) h2 (LQ X.K F2 Q) (LX X.K F2 E)) I1
      ⟨F1, ρ, h1, S1, R1, hkw.mo _ _ _ _ _ _ (fun zs h2 q2 F2 H2 ys e2 S2 rz => ⟨F2, h2, zs, e2, S2, rz, q2.1, q2.2.1, G.mo _ _ _ _ _ _ (fun _ _ z => LQ.ext e2 z) (fun _ _ z => LX.ext e2 z) q2.2.2⟩) (fun _ _ z => z) q1⟩) fun ws s2 hh => ?_
  obtain ⟨ys, H2, I2, r2, F2, h2, zs, e2, S2, rz, l1, l2, q2⟩ := hh
  refine ⟨I2.kIn, ?_⟩
  rw [hks]
  obtain ⟨xs, ts, rx, rt, bt⟩ := B.to s2 F2 ds zs vs ys us ws I2.kIn l1 (l2.trans hl.symm) (rs.ext e2) r1 rz r2
  exact wpAny_call (codeAny_mono (run_g (c.mono hj) G hz I2 bt rt ⟨F2, _, h2, S2, rx, q2⟩) fun r s' hr => by
    match r, hr with
    | .error _, hr => exact hr
    | .ok (.ret _), hr => exact hr)
end
/-- the parameters' values, picked from the positional ones and the keywords' -/
def pickD (ix : List Nat) (ds zs : List D) : List D := ix.map fun i => ((ds ++ zs)[i]?).getD .non
theorem Bnd.pick {K : PySem.W.Frag} {fd : FuncData} {ps : List Str} {n : Nat} {ks : List Str} (ix : List Nat) (hi : ∀ i ∈ ix, i < n + ks.length)
    (h : ∀ us ws : List Value, us.length = n → ws.length = ks.length → bindArgs fd ⟨us, ks.zip ws⟩ = pure (ps.zip (ix.map fun i => ((us ++ ws)[i]?).getD .none))) : Bnd K fd ps n ks (pickD ix) := by
  refine ⟨fun s F ds zs vs ys us ws X l1 l2 r1 r2 r3 r4 => ⟨ix.map fun i => ((vs ++ ys)[i]?).getD .non, ix.map fun i => ((us ++ ws)[i]?).getD .none, ?_, ?_, .of_eq (h us ws (by rw [← r2.length, ← r1.length]; exact l1) (by rw [← r4.length, ← r3.length]; exact l2))⟩⟩
  · have r := r1.append r3
    have l : (ds ++ zs).length = n + ks.length := by simp [l1, l2]
    clear h
    unfold pickD
    induction ix with
    | nil => exact .nil
    | cons i ix ih =>
      have li : i < (ds ++ zs).length := by rw [l]; exact hi i (List.mem_cons_self ..)
      obtain ⟨v, hv, rv⟩ := r.get (List.getElem?_eq_getElem li)
      refine .cons ?_ (ih fun j hj => hi j (List.mem_cons_of_mem _ hj))
      show _
      simp only [hv, List.getElem?_eq_getElem li]
      exact rv
  · have r := r2.append r4
    have l : (vs ++ ys).length = n + ks.length := by simp [← r1.length, ← r3.length, l1, l2]
    clear h
    induction ix with
    | nil => exact .nil
    | cons i ix ih =>
      have li : i < (vs ++ ys).length := by rw [l]; exact hi i (List.mem_cons_self ..)
      obtain ⟨v, hv, rv⟩ := r.get (List.getElem?_eq_getElem li)
      refine .cons ?_ (ih fun j hj => hi j (List.mem_cons_of_mem _ hj))
      show _
      simp only [hv, List.getElem?_eq_getElem li]
      exact rv
end DL
namespace DL
open PySem PySem.Spec L2 C8 PyProof.Rows

/-! ### the law is called -/
section
variable {P : Program} {w : World} {K : PySem.W.Frag} {mg bm : Str → Option Value} {k : Nat} {fa q : Addr} {fd : FuncData} {x : Str} {S : FSpec} {t : Shared} {us : List Value} {js : List Int}
/-- what is tracked at the start: the script at most -/
structure Beg (K : PySem.W.Frag) (P : Program) (w : World) (H : Hp) (hp : Heap) (q : Addr) (js : List Int) : Prop where
  sq : SqL K H q (js.map V.int)
  ok : HOk P w H hp
  at_ : ∀ b, H b ≠ none → b = q
  out : H q ≠ none → K.lookup q = none
  fz : ∀ b, H b = none ∨ ∃ ob ys, H b = some (.frz ob (.lst ys))
theorem beg_of (KX : K.In t.heap) (hq : t.heap.get? q = some { cls := .type "list", data := .seq us.toArray }) (ia : IntsAre us js) (lj : js.length ≤ sizeLine) : ∃ H, Beg K P w H t.heap q js := by
  have rv := vals_ints ia
  have el := ia.length
  cases kq : K.lookup q with
  | some ob =>
    have e := (KX q ob kq).symm.trans hq
    obtain rfl := Option.some.inj e
    refine ⟨fun _ => none, .inr ⟨_, _, _, kq, rfl, rfl, rfl, ?_, by simpa using rv⟩, fun b u z => ?_, fun b z => absurd rfl z, fun z => absurd rfl z, fun b => .inl rfl⟩
    · rw [List.size_toArray, el]; exact lj
    · exact absurd (show (none : Option HO) = some u from z) (by simp)
  | none =>
    have tr : ∀ b : Addr, (if b = q then some (HO.frz { cls := .type "list", data := .seq us.toArray } (.lst (js.map V.int))) else none : Option HO) ≠ none → b = q := fun b z => by
      by_cases c : b = q
      · exact c
      · exact absurd (if_neg c) z
    refine ⟨fun b => if b = q then some (.frz { cls := .type "list", data := .seq us.toArray } (.lst (js.map V.int))) else none, .inl (.inr ⟨_, if_pos rfl⟩), fun b u z => ?_, tr, fun _ => kq, fun b => ?_⟩
    · have c : b = q := tr b (by intro n; exact absurd (n.symm.trans z) (by simp))
      subst c
      obtain rfl := Option.some.inj ((if_pos rfl).symm.trans z)
      exact ⟨hq, by rw [List.length_map]; exact lj, us, _, rv, hq⟩
    · by_cases c : b = q
      · exact .inr ⟨_, _, if_pos c⟩
      · exact .inl (if_neg c)
theorem dl_call (KX : K.In t.heap) (n1 : t.heap.Ns mainGlobals mg) (n2 : t.heap.Ns builtinsNs bm) (bb : ∀ y : Str, y ≠ "__name__" → bm y = bootBuiltins y) (nl : t.heap.NoLimit) (ng : t.gens = #[])
    (hq : t.heap.get? q = some { cls := .type "list", data := .seq us.toArray }) (ia : IntsAre us js) (lj : js.length ≤ sizeLine) (rm : Room k callerA)
    (G : ∀ base : Heap, K.In base → base.Ns mainGlobals mg → FnG gz P w K mg base k fa fd [x] S) (hb : ∀ (s : Shared) (u : Value), BindsTo s fd ⟨[u], []⟩ [(x, u)])
    (hS : S [.lk (js.map D.int)] (fun _ => none) (fun d _ => d = .bl true) (fun _ _ => False)) :
    codeAny (model P w) callerA (.call (.ref fa) ⟨[.ref q], []⟩) (fun r s' => r = .ok (.ret (.bool true)) ∧ OldK t.heap s'.heap ∧ s'.os = t.os ∧ AllBare s'.gens) t := by
  obtain ⟨H, B⟩ := beg_of (P := P) (w := w) KX hq ia lj
  have low : ∀ {b : Addr} {ob : Obj}, t.heap.get? b = some ob → H b = none → (hidT t.heap H).get? b = some ob := fun e z => hidT_get e z
  have noD : ∀ {b : Addr} {ob : Obj} {es : Array DictEntry} {ep : Nat}, t.heap.get? b = some ob → ob.data = .dict es ep → H b = none := by
    intro b ob es ep e d
    by_cases z : H b = none
    · exact z
    · obtain rfl := B.at_ b z
      obtain rfl := Option.some.inj (e.symm.trans hq)
      exact absurd (show Data.seq us.toArray _ = Data.dict es ep from d) (by intro h; cases h)
  have ns : ∀ {b : Addr} {m : Str → Option Value}, t.heap.Ns b m → (hidT t.heap H).Ns b m := fun ⟨ob, es, ep, e, d, r⟩ => ⟨ob, es, ep, low e (noD e d), d, r⟩
  have hK : K.In (hidT t.heap H) := fun b ob e => low (KX b ob e) (by
    by_cases z : H b = none
    · exact z
    · obtain rfl := B.at_ b z
      rw [B.out z] at e; cases e)
  have M : Mod K mg (hidT t.heap H) := by
    obtain ⟨mc, l1, l2⟩ := nl
    exact ⟨hK, ns n1, ⟨bm, ns n2, bb⟩, mc, ns l1, l2⟩
  have none_in : ∀ {b : Addr}, b ∉ ([] : List Addr) := fun h => by cases h
  have e0 : Env0 P w K mg (hidT t.heap H) callerA [] t H := ⟨rfl, M, fun b ob e => of_hidT e, Nat.le_of_eq (hidT_size _ _), trivial, fun b h => absurd h none_in, B.ok, .of_eq ng⟩
  have sp : spD K S [.ref q] H (fun v _ => v = .bl true) (fun _ _ _ => False) := by
    refine ⟨H, _, fun _ => none, ⟨fun _ _ e => e, fun b ob e => by cases e⟩, .cons (.lk B.sq ?_) .nil, (G _ hK (ns n1)).mo _ _ _ _ _ _ (fun d h e => ?_) (fun _ _ z => z.elim) hS⟩
    · clear hS hq ia lj B e0
      induction js with
      | nil => exact .nil
      | cons j js ih => exact .cons (.int j) ih
    · intro F' H' v _ _ r
      subst e
      cases r; rfl
  refine codeAny_mono ((G _ hK (ns n1)).run (args := ⟨[.ref q], []⟩) (us := [.ref q]) (vs := [.ref q]) rm (fun _ => rfl) e0 (hb t (.ref q)) (.cons rfl .nil) sp) fun r s' h => ?_
  match r, h with
  | .error e, h => obtain ⟨_, _, _, _, _, _, _, _, _, _, _, _, h⟩ := h; exact h.elim
  | .ok (.ret u), h =>
    obtain ⟨v, H2, os, bare, un, ok2, r2, e⟩ := h
    have e : v = .bl true := e
    subst e
    obtain rfl : u = Value.bool true := r2
    refine ⟨rfl, OldK.of_keep fun b ob e => ?_, os, bare⟩
    rcases B.fz b with z | ⟨o2, ys, z⟩
    · exact un.keep b ob e z none_in (by simp)
    · have d1 := (B.ok b _ z).1
      have d2 := (ok2 b _ (un.frzs b o2 _ z)).1
      rw [d1] at e
      obtain rfl := Option.some.inj e
      exact d2
  | .ok .next, h => exact h.elim
  | .ok .brk, h => exact h.elim
  | .ok .cont, h => exact h.elim
/-- what the head leaves (case hc), from the law's promise -/
theorem dl_walk {l : PySem.W.OpenLaw} {n k : Nat} {p : Program} {loose : List Str} {XP : (Str → Option Value) → Heap → Prop} {YP : World → Heap → Prop} {d : DefRec} {K : Params → PySem.W.Frag} {S : FSpec} {x : Str}
    (hn : l.most = some n) (hz : n ≤ sizeLine) (hd : d.params.defaults = []) (rm : Room k callerA) (hY : ∀ (w : World) (h : Heap), YP w h → (K w.params).In h)
    (G : ∀ (w : World) (mg : Str → Option Value) (fa : Addr) (h : Heap), (K w.params).In h → h.Ns mainGlobals mg → mg d.name = some (.ref fa) →
      ∃ fd : FuncData, (∀ (s : Shared) (u : Value), BindsTo s fd ⟨[u], []⟩ [(x, u)]) ∧ ∀ base : Heap, (K w.params).In base → base.Ns mainGlobals mg → FnG gz l.prog w (K w.params) mg base k fa fd [x] S)
    (hS : ∀ js : List Int, js.length ≤ n → S [.lk (js.map D.int)] (fun _ => none) (fun d _ => d = .bl true) (fun _ _ => False)) :
    PySem.W.WalkO p loose XP YP l.row.toRowW d [] (fun f vs => PySem.call f vs) := by
  refine Att.attach_call hn hd fun w t0 t mg bm fa ob pm cd doc q us js Gr Y ho hdat hcd hmg hq ia lj ng => ?_
  obtain ⟨fd, hb, hF⟩ := G w mg fa _ (hY w _ Y) Gr.T.g hmg
  exact dl_call (hY w _ Y) Gr.T.g Gr.T.b Gr.T.builtins Gr.T.nolimit ng hq ia (Nat.le_trans lj hz) rm hF hb (hS js lj)
end
end DL
namespace DL
open PySem PySem.Spec L2 C8
section
variable {X : Cx} {E : XK} {k : Nat} {a b c e : Expr} {wa wb wc : WE} {pos : Pos} {op op' : CmpOp} {r r' : R2} {f g : D → D → AH → KD → Prop}
theorem to_chain (ok : OpD X.K r f) (ok' : OpD X.K r' g) (ha : AE X E a wa) (hb : AE X E b wb) (hc : AE X E c wc) {σ : L2.St} {H : Hp} {Q : VK} (h : tE X.K E (wChain f g wa wb wc) σ H Q) : tChain r r' (tE X.K E wa) (tE X.K E wb) (tE X.K E wc) σ H Q := by
  obtain ⟨F, ρ, g0, S, R, q⟩ := h
  refine ⟨F, ρ, g0, S, R, ha.mo _ _ _ _ _ _ (fun x h1 hx => ?_) (fun _ _ z => z) q⟩
  intro F1 H1 vx e1 S1 rx
  refine ⟨F1, ρ, h1, S1, R.ext e1, hb.mo _ _ _ _ _ _ (fun y h2 hf => ?_) (fun _ _ z => LX.ext e1 z) hx⟩
  intro F2 H2 vy e2 S2 ry
  refine ok.to S2 (rx.ext e2) ry (ok.mo (fun z h3 hz => ?_) hf)
  intro F3 H3 v3 e3 S3 r3
  split at hz
  · rename_i kk
    cases r3
    refine ⟨kk, rfl, ?_⟩
    split at hz
    · rename_i ck
      rw [if_pos ck]
      refine ⟨F3, ρ, h3, S3, R.ext (e1.trans (e2.trans e3)), hc.mo _ _ _ _ _ _ (fun u h4 hg => ?_) (fun _ _ z => LX.ext (e1.trans (e2.trans e3)) z) hz⟩
      intro F4 H4 vu e4 S4 ru
      exact ok'.to S4 (ry.ext (e3.trans e4)) ru (ok'.mo (fun _ _ z => LQ.ext (e1.trans (e2.trans (e3.trans e4))) z) hg)
    · rename_i ck
      rw [if_neg ck]
      exact hz F3 H3 _ (e1.trans (e2.trans e3)) S3 (.bl _)
  · exact hz.elim
theorem at_chain2 (ok : OpD X.K r f) (ok' : OpD X.K r' g) (ho : OpR X (compareOp op) r) (ho' : OpR X (compareOp op') r') (ha : AE X E a wa) (hb : AE X E b wb) (hc : AE X E c wc)
    (hm : lastMarks [op, op'] [b, c] = false := by with_unfolding_all rfl) : AT X E (.Compare a [op, op'] [b, c] pos) (wTest (wChain f g wa wb wc)) := by
  have M : MoE (wChain f g wa wb wc) := mo_chain ok.mo ok'.mo ha.mo hb.mo hc.mo
  refine ⟨PT.imp (pt_chain ho ho' ha.run hb.run hc.run hm) fun σ H Q ⟨F, ρ, g0, S, R, q⟩ => ?_, fun ρ h Q Q' X X' hq hx q => M _ _ _ _ _ _ (fun x h1 q1 => ?_) hx q⟩
  · refine to_chain ok ok' ha hb hc ⟨F, ρ, g0, S, R, M _ _ _ _ _ _ (fun x h1 hx => ?_) (fun _ _ z => z) q⟩
    intro F1 H1 vx e1 S1 rx
    split at hx
    · cases rx; exact ⟨_, rfl, hx F1 H1 e1 S1⟩
    · exact hx.elim
  · split at q1
    · exact hq _ _ q1
    · exact q1.elim
theorem ae_chain2 (ok : OpD X.K r f) (ok' : OpD X.K r' g) (ho : OpR X (compareOp op) r) (ho' : OpR X (compareOp op') r') (ha : AE X E a wa) (hb : AE X E b wb) (hc : AE X E c wc)
    (hm : lastMarks [op, op'] [b, c] = false := by with_unfolding_all rfl) : AE X E (.Compare a [op, op'] [b, c] pos) (wChain f g wa wb wc) :=
  ⟨PE.imp (pe_chain ho ho' ha.run hb.run hc.run hm) fun σ H Q h => to_chain ok ok' ha hb hc h, mo_chain ok.mo ok'.mo ha.mo hb.mo hc.mo⟩
end
/-! ### the built-in names -/
theorem bb_len : bootBuiltins "len" = some (.builtin "len") := by decide +kernel
theorem bb_abs : bootBuiltins "abs" = some (.builtin "abs") := by decide +kernel
theorem bb_max : bootBuiltins "max" = some (.builtin "max") := by decide +kernel
theorem bb_min : bootBuiltins "min" = some (.builtin "min") := by decide +kernel
theorem bb_sum : bootBuiltins "sum" = some (.builtin "sum") := by decide +kernel
theorem bb_all : bootBuiltins "all" = some (.builtin "all") := by decide +kernel
theorem bb_any : bootBuiltins "any" = some (.builtin "any") := by decide +kernel
theorem bb_repr : bootBuiltins "repr" = some (.builtin "repr") := by decide +kernel
theorem bb_isinstance : bootBuiltins "isinstance" = some (.builtin "isinstance") := by decide +kernel
theorem bb_int : bootBuiltins "int" = some (.type "int") := by decide +kernel
theorem bb_bool : bootBuiltins "bool" = some (.type "bool") := by decide +kernel
theorem bb_str : bootBuiltins "str" = some (.type "str") := by decide +kernel
theorem bb_list : bootBuiltins "list" = some (.type "list") := by decide +kernel
theorem bb_tuple : bootBuiltins "tuple" = some (.type "tuple") := by decide +kernel
theorem bb_dict : bootBuiltins "dict" = some (.type "dict") := by decide +kernel
/-- a name of the module that holds an int -/
theorem cst_int {K : PySem.W.Frag} {mg : Str → Option Value} {x : Str} {i : Int} {t : Tok} (h : mg x = some (.int i t)) : Cst K mg x (.int i) := ⟨⟨.int i, _, h, ⟨t, rfl⟩, fun _ => .int i⟩⟩
theorem cst_str {K : PySem.W.Frag} {mg : Str → Option Value} {x i : Str} {t : Tok} (h : mg x = some (.str i t)) : Cst K mg x (.str i) := ⟨⟨.str i, _, h, ⟨t, rfl⟩, fun _ => .str i⟩⟩
theorem cst_bl {K : PySem.W.Frag} {mg : Str → Option Value} {x : Str} {i : Bool} (h : mg x = some (.bool i)) : Cst K mg x (.bl i) := ⟨⟨.bl i, _, h, rfl, fun _ => .bl i⟩⟩
theorem cst_non {K : PySem.W.Frag} {mg : Str → Option Value} {x : Str} (h : mg x = some .none) : Cst K mg x .non := ⟨⟨.non, _, h, rfl, fun _ => .non⟩⟩
end DL
namespace DL
open PySem PySem.Spec L2 C8

/-! ### how the readings unfold -/
section
variable {ρ : EnvD} {h : AH} {Q : KD} {X : KX} {D0 : EndsD} {a b c : WE} {s1 s2 : WS} {t u : WT} {i j : Int} {m : Bool} {xs : List D} {d x y z : D}
theorem u_seq : wSeq s1 s2 D0 ρ h = s1 { D0 with nx := s2 D0 } ρ h := rfl
theorem u_asg {g : WG} : wAsg a g D0 ρ h = a ρ h (fun x h1 => g x ρ h1 D0.nx D0.ex) D0.ex := rfl
theorem u_gN {n : Nat} {Q : EnvD → AH → Prop} : gN n d ρ h Q X = Q (ρ.set n (some d)) h := rfl
theorem u_ret : wRet a D0 ρ h = a ρ h D0.rt D0.ex := rfl
theorem u_retN : wRetN D0 ρ h = D0.rt .non h := rfl
theorem u_skip : wSkip D0 ρ h = D0.nx ρ h := rfl
theorem u_expr : wExpr a D0 ρ h = a ρ h (fun _ h1 => D0.nx ρ h1) D0.ex := rfl
theorem u_ifs : wIfS t s1 s2 D0 ρ h = t ρ h (fun c h1 => if c = true then s1 D0 ρ h1 else s2 D0 ρ h1) D0.ex := rfl
theorem u_c : wC d ρ h Q X = Q d h := rfl
theorem u_var {n : Nat} (e : ρ[n]? = some (some d)) : wVar n ρ h Q X = Q d h := by simp [wVar, e]
theorem u_op {f : D → D → AH → KD → Prop} : wOp f a b ρ h Q X = a ρ h (fun x h1 => b ρ h1 (fun y h2 => f x y h2 Q) X) X := rfl
theorem u_neg : wNeg a ρ h Q X = a ρ h (fun x h1 => match x with
  | .int i => Q (.int (-i)) h1
  | _ => False) X := rfl
theorem u_test {Q : Bool → AH → Prop} : wTest a ρ h Q X = a ρ h (fun x h1 => match x with
  | .bl b => Q b h1
  | _ => False) X := rfl
theorem u_and {Q : Bool → AH → Prop} : wAnd t u ρ h Q X = t ρ h (fun c h1 => if c = true then u ρ h1 Q X else Q false h1) X := rfl
theorem u_or {Q : Bool → AH → Prop} : wOr t u ρ h Q X = t ρ h (fun c h1 => if c = true then Q true h1 else u ρ h1 Q X) X := rfl
theorem u_not {Q : Bool → AH → Prop} : wNot t ρ h Q X = t ρ h (fun c h1 => Q (!c) h1) X := rfl
theorem u_if : wIf t a b ρ h Q X = t ρ h (fun c h1 => if c = true then a ρ h1 Q X else b ρ h1 Q X) X := rfl
theorem u_nil {Q : List D → AH → Prop} : wNil ρ h Q X = Q [] h := rfl
theorem u_cons {r : WA} {Q : List D → AH → Prop} : wCons a r ρ h Q X = a ρ h (fun x h1 => r ρ h1 (fun xs h2 => Q (x :: xs) h2) X) X := rfl
theorem u_tup {l : WA} : wTup l ρ h Q X = l ρ h (fun xs h1 => xs.length ≤ sizeLine ∧ Q (.tup xs) h1) X := rfl
theorem u_lst {l : WA} : wLst m l ρ h Q X = l ρ h (fun xs h1 => xs.length ≤ sizeLine ∧ newL m xs h1 Q) X := rfl
theorem u_callP {S : FSpec} {n : Nat} {g : List D → List D → List D} {l : WA} : wCallP S n g l ρ h Q X = l ρ h (fun ds h1 => ds.length = n ∧ S (g ds []) h1 Q X) X := rfl
theorem u_call {S : FSpec} {n k : Nat} {g : List D → List D → List D} {l r : WA} : wCall S n k g l r ρ h Q X = l ρ h (fun ds h1 => r ρ h1 (fun zs h2 => ds.length = n ∧ zs.length = k ∧ S (g ds zs) h2 Q X) X) X := rfl
theorem u_b {r : List D → AH → KD → Prop} {l : WA} : wB r l ρ h Q X = l ρ h (fun xs h1 => r xs h1 Q) X := rfl
theorem u_chain {f g : D → D → AH → KD → Prop} : wChain f g a b c ρ h Q X = a ρ h (fun x h1 => b ρ h1 (fun y h2 => f x y h2 fun z h3 => match z with
  | .bl k => if k = true then c ρ h3 (fun u h4 => g y u h4 Q) X else Q (.bl false) h3
  | _ => False) X) X := rfl
theorem u_andV : wAndV a b ρ h Q X = a ρ h (fun x h1 => match x with
  | .bl k => if k = true then b ρ h1 Q X else Q (.bl false) h1
  | _ => False) X := rfl
theorem u_addI : dAdd m (.int i) (.int j) h Q = Q (.int (i + j)) h := rfl
theorem u_subI : dSub (.int i) (.int j) h Q = Q (.int (i - j)) h := rfl
theorem u_mulI : dMul m (.int i) (.int j) h Q = (MulOk i j ∧ Q (.int (i * j)) h) := rfl
theorem u_divI : dDiv (.int i) (.int j) h Q = (DivOk j ∧ Q (.int (i / j)) h) := rfl
theorem u_modI : dMod (.int i) (.int j) h Q = (0 < j ∧ Q (.int (i % j)) h) := rfl
theorem u_powI : dPow (.int i) (.int j) h Q = (PowOk i j ∧ Q (.int (i ^ j.toNat)) h) := rfl
theorem u_cmpI {f : Int → Int → Bool} : dCmpI f (.int i) (.int j) h Q = Q (.bl (f i j)) h := rfl
theorem u_eqI {f : Bool → Bool} : dEq f (.int i) (.int j) h Q = Q (.bl (f (decide (i = j)))) h := rfl
theorem u_eqS {f : Bool → Bool} {i j : Str} : dEq f (.str i) (.str j) h Q = Q (.bl (f (decide (i = j)))) h := rfl
theorem u_eqB {f : Bool → Bool} {i j : Bool} : dEq f (.bl i) (.bl j) h Q = Q (.bl (f (decide (i = j)))) h := rfl
theorem u_ixL : dIx (.lst xs) (.int i) h Q = ∃ d, atI xs i = some d ∧ Q d h := by simp [dIx, seqOf, lstOf]
theorem u_ixT : dIx (.tup xs) (.int i) h Q = ∃ d, atI xs i = some d ∧ Q d h := by simp [dIx, seqOf]
theorem u_ixR {p : Addr} (e : h p = some (.lst xs)) : dIx (.ref p) (.int i) h Q = ∃ d, atI xs i = some d ∧ Q d h := by simp [dIx, seqOf, lstOf, e]
theorem u_ixLd (e : atI xs i = some d) : dIx (.lst xs) (.int i) h Q = Q d h := by simp [u_ixL, e]
theorem u_ixTd (e : atI xs i = some d) : dIx (.tup xs) (.int i) h Q = Q d h := by simp [u_ixT, e]
theorem u_ixRd {p : Addr} (e : h p = some (.lst xs)) (e2 : atI xs i = some d) : dIx (.ref p) (.int i) h Q = Q d h := by simp [u_ixR e, e2]
theorem at0 : atI (x :: xs) 0 = some x := by simp [atI, ixN]
theorem at1 : atI (x :: y :: xs) 1 = some y := by
  have : (1 : Int) < (xs.length : Int) + 1 + 1 := by omega
  simp [atI, ixN, this]
theorem at2 : atI (x :: y :: z :: xs) 2 = some z := by
  have : (2 : Int) < (xs.length : Int) + 1 + 1 + 1 := by omega
  simp [atI, ixN, this]
theorem u_abs : dAbs [.int i] h Q = Q (.int (if i < 0 then -i else i)) h := rfl
theorem u_intI : dInt [.int i] h Q = Q (.int i) h := rfl
theorem u_intB {k : Bool} : dInt [.bl k] h Q = Q (.int (if k then 1 else 0)) h := rfl
theorem u_lenL : dLen [.lst xs] h Q = Q (.int (xs.length : Nat)) h := by simp [dLen, lenD, cur]
theorem u_lenT : dLen [.tup xs] h Q = Q (.int (xs.length : Nat)) h := by simp [dLen, lenD, cur]
theorem u_lenR {p : Addr} (e : h p = some (.lst xs)) : dLen [.ref p] h Q = Q (.int (xs.length : Nat)) h := by simp [dLen, lenD, cur, e]
theorem u_newT : newL true xs h Q = ∀ p, h p = none → Q (.ref p) (up h p (.lst xs)) := by simp [newL]
theorem u_newF : newL false xs h Q = Q (.lst xs) h := by simp [newL]
theorem u_isN : dIsN (fun b => b) .non .non h Q = Q (.bl true) h := rfl
theorem u_notN : dIsN (fun b => !b) .non .non h Q = Q (.bl false) h := rfl
end
/-! ### == of lists -/
theorem pd_ints (cs : List Int) : pds (cs.map D.int) = cs.map PyData.int := by
  induction cs with
  | nil => rfl
  | cons c cs ih => rw [List.map_cons, pds, ih, pd]; rfl
theorem dats_ints (cs : List Int) : dats (cs.map D.int) = true := by
  induction cs with
  | nil => rfl
  | cons c cs ih => rw [List.map_cons, dats, ih]; rfl
theorem lay_ints (cs : List Int) : PyData.canLayAll0 (cs.map PyData.int) = true := by
  induction cs with
  | nil => rw [List.map_nil, PyData.canLayAll0]
  | cons c cs ih => rw [List.map_cons, PyData.canLayAll0, ih, PyData.canLay0]; rfl
theorem dep_ints (cs : List Int) : PyData.depthAll (cs.map PyData.int) = 0 := by
  induction cs with
  | nil => rw [List.map_nil, PyData.depthAll]
  | cons c cs ih => rw [List.map_cons, PyData.depthAll, ih, PyData.depth]; rfl
theorem sh_lst (cs : List Int) : SeqAt.shaped (pd (.lst (cs.map D.int))) = true := by
  rw [pd, pd_ints]; unfold SeqAt.shaped
  rw [PyData.canLay0, PyData.depth, lay_ints, dep_ints]; rfl
theorem sh_tup (cs : List Int) : SeqAt.shaped (pd (.tup (cs.map D.int))) = true := by
  rw [pd, pd_ints]; unfold SeqAt.shaped
  rw [PyData.canLay0, PyData.depth, lay_ints, dep_ints]; rfl
theorem eqv_ints : ∀ cs ds : List Int, PyData.eqvAll (cs.map PyData.int) (ds.map PyData.int) = decide (cs = ds)
  | [], [] => by rw [List.map_nil, PyData.eqvAll]; rfl
  | [], d :: ds => by rw [List.map_nil, List.map_cons, PyData.eqvAll]; rfl
  | c :: cs, [] => by rw [List.map_nil, List.map_cons, PyData.eqvAll]; rfl
  | c :: cs, d :: ds => by
    rw [List.map_cons, List.map_cons, PyData.eqvAll, PyData.eqv, eqv_ints cs ds]
    by_cases e : c = d <;> simp [e]
theorem eq_lst {f : Bool → Bool} {cs ds : List Int} {h : AH} {Q : KD} (q : Q (.bl (f (decide (cs = ds)))) h) : dEq f (.lst (cs.map D.int)) (.lst (ds.map D.int)) h Q := by
  refine ⟨by show dats _ = true; exact dats_ints cs, by show dats _ = true; exact dats_ints ds, sh_lst cs, sh_lst ds, ?_⟩
  show Q (.bl (f (PyData.eqv (pd (.lst (cs.map D.int))) (pd (.lst (ds.map D.int)))))) h
  rw [pd, pd, PyData.eqv, pd_ints, pd_ints, eqv_ints]; exact q
theorem eq_tup {f : Bool → Bool} {cs ds : List Int} {h : AH} {Q : KD} (q : Q (.bl (f (decide (cs = ds)))) h) : dEq f (.tup (cs.map D.int)) (.tup (ds.map D.int)) h Q := by
  refine ⟨by show dats _ = true; exact dats_ints cs, by show dats _ = true; exact dats_ints ds, sh_tup cs, sh_tup ds, ?_⟩
  show Q (.bl (f (PyData.eqv (pd (.tup (cs.map D.int))) (pd (.tup (ds.map D.int)))))) h
  rw [pd, pd, PyData.eqv, pd_ints, pd_ints, eqv_ints]; exact q
theorem eq_nil {f : Bool → Bool} {cs : List Int} {h : AH} {Q : KD} (q : Q (.bl (f (decide (cs = [])))) h) : dEq f (.lst (cs.map D.int)) (.lst []) h Q := eq_lst (ds := []) q
/-- a statement, then the rest, over what stands between -/
theorem seq_go {s1 s2 : WS} {D0 : EndsD} {ρ : EnvD} {h : AH} (P : EnvD → AH → Prop) (h1 : ∀ K : EnvD → AH → Prop, (∀ ρ h, P ρ h → K ρ h) → s1 { D0 with nx := K } ρ h) (h2 : ∀ ρ h, P ρ h → s2 D0 ρ h) : wSeq s1 s2 D0 ρ h := h1 _ h2
theorem loop_go {st : AH → Prop} {g : WG} {tb : WS} {Z : EndsD} {xs : List D} {ρ : EnvD} {h : AH} (P : Nat → EnvD → AH → Prop) (h0 : P 0 ρ h) (hst : ∀ i ρ h, P i ρ h → st h)
    (hs : ∀ i x ρ h (K : EnvD → AH → Prop), xs[i]? = some x → P i ρ h → (∀ ρ h, P (i + 1) ρ h → K ρ h) → g x ρ h (fun ρ2 h2 => tb { Z with nx := K, ct := K, bk := Z.nx } ρ2 h2) Z.ex) (hd : ∀ ρ h, P xs.length ρ h → Z.nx ρ h) : loopD st g tb Z xs ρ h := by
  suffices H : ∀ (n i : Nat), xs.length - i = n → i ≤ xs.length → ∀ ρ h, P i ρ h → loopD st g tb Z (xs.drop i) ρ h by
    simpa using H xs.length 0 (by simp) (Nat.zero_le _) ρ h h0
  intro n
  induction n with
  | zero =>
    intro i e l ρ h p
    obtain rfl : i = xs.length := by omega
    rw [List.drop_length]
    exact ⟨hst _ _ _ p, hd _ _ p⟩
  | succ n ih =>
    intro i e l ρ h p
    have lt : i < xs.length := by omega
    rw [List.drop_eq_getElem_cons lt]
    exact ⟨hst _ _ _ p, hs i _ ρ h (loopD st g tb Z (xs.drop (i + 1))) (List.getElem?_eq_getElem lt) p fun ρ h q => ih (i + 1) (by omega) lt ρ h q⟩
/-- a comprehension: P by the turn and the heap -/
theorem comp_go {st : AH → Prop} {g : WG} {tt : WT} {te : WE} {vs : List Nat} {ρ : EnvD} {p : Addr} {xs : List D} {h : AH} {Q : AH → Prop} (P : Nat → AH → Prop) (h0 : P 0 h) (hst : ∀ i h, P i h → st h)
    (hs : ∀ i x h (K : AH → Prop), xs[i]? = some x → P i h → (∀ h, P (i + 1) h → K h) → g x (wipeD ρ vs) h (fun ρ2 h2 => tt ρ2 h2 (fun b h3 => if b = true then te ρ2 h3 (fun y h4 => ∃ acc, h4 p = some (.lst acc) ∧ acc.length < sizeLine ∧ K (up h4 p (.lst (acc ++ [y])))) (fun _ _ => False) else K h3) (fun _ _ => False)) (fun _ _ => False))
    (hd : ∀ h, P xs.length h → Q h) : compD st g tt te vs ρ p xs h Q := by
  suffices H : ∀ (n i : Nat), xs.length - i = n → i ≤ xs.length → ∀ h, P i h → compD st g tt te vs ρ p (xs.drop i) h Q by
    simpa using H xs.length 0 (by simp) (Nat.zero_le _) h h0
  intro n
  induction n with
  | zero =>
    intro i e l h p
    obtain rfl : i = xs.length := by omega
    rw [List.drop_length]
    exact ⟨hst _ _ p, hd _ p⟩
  | succ n ih =>
    intro i e l h q
    have lt : i < xs.length := by omega
    rw [List.drop_eq_getElem_cons lt]
    exact ⟨hst _ _ q, hs i _ h (fun h => compD st g tt te vs ρ p (xs.drop (i + 1)) h Q) (List.getElem?_eq_getElem lt) q fun h z => ih (i + 1) (by omega) lt h z⟩
/-- .. where the heap is as it was but for the new list, whose items come one by one: f item or none -/
theorem comp_pure {st : AH → Prop} {g : WG} {tt : WT} {te : WE} {vs : List Nat} {ρ : EnvD} {p : Addr} {xs : List D} {h : AH} {Q : AH → Prop} (f : D → Option D) (hst : ∀ acc, st (up h p (.lst acc))) (hl : xs.length ≤ sizeLine)
    (hs : ∀ x acc (K : AH → Prop), x ∈ xs → acc.length < sizeLine → K (up h p (.lst (acc ++ (f x).toList))) → g x (wipeD ρ vs) (up h p (.lst acc)) (fun ρ2 h2 => tt ρ2 h2 (fun b h3 => if b = true then te ρ2 h3 (fun y h4 => ∃ acc, h4 p = some (.lst acc) ∧ acc.length < sizeLine ∧ K (up h4 p (.lst (acc ++ [y])))) (fun _ _ => False) else K h3) (fun _ _ => False)) (fun _ _ => False))
    (hd : Q (up h p (.lst (xs.filterMap f)))) : compD st g tt te vs ρ p xs (up h p (.lst [])) Q := by
  refine comp_go (fun i h' => ∃ acc, acc = (xs.take i).filterMap f ∧ h' = up h p (.lst acc)) ⟨[], by simp, rfl⟩ (fun i h' ⟨acc, _, e⟩ => e ▸ hst acc) ?_ ?_
  · rintro i x h' K e ⟨acc, rfl, rfl⟩ k
    have li := (List.getElem?_eq_some_iff.mp e).1
    refine hs x _ K (List.mem_of_getElem? e) ?_ (k _ ⟨_, ?_, rfl⟩)
    · have := List.length_filterMap_le f (xs.take i)
      simp at this; omega
    · rw [List.take_succ, e, Option.toList_some, List.filterMap_append]
      congr 1
  · rintro h' ⟨acc, rfl, rfl⟩
    rw [List.take_length]
    exact hd
end DL
namespace DL
open PySem PySem.Spec L2 C8
/-! ### the pen: cells, where it stands, what is left of a great cell -/
def PenO (n : Int) (o : AO) : Prop := ∃ (cs : List Int) (at_ gr : Int), o = .lst [.lst (cs.map D.int), .int at_, .int gr] ∧ cs.length ≤ 63 ∧ 0 ≤ at_ ∧ at_ ≤ n ∧ 0 ≤ gr
def PenAt (n : Int) (h : AH) (p : Addr) : Prop := ∃ o, h p = some o ∧ PenO n o
theorem PenO.mono {n m : Int} {o : AO} (h : PenO n o) (l : n ≤ m) : PenO m o := by
  obtain ⟨cs, a, g, rfl, l1, l2, l3, l4⟩ := h
  exact ⟨cs, a, g, rfl, l1, l2, by omega, l4⟩
def S_draw : FSpec := fun ds h Q _ => ∃ (n : Int) (p : Addr) (m : Int), ds = [.ref p, .int m] ∧ PenAt n h p ∧ n < 1000000 ∧ DivOk m ∧ ∀ v o, 0 ≤ v → v < m → PenO (n + 1) o → Q (.int v) (up h p o)
theorem mo_draw : MoF S_draw := fun ds h Q Q' X X' hq _ ⟨n, p, m, e, e1, e2, e3, q⟩ => ⟨n, p, m, e, e1, e2, e3, fun v o h1 h2 h3 => hq _ _ (q v o h1 h2 h3)⟩
theorem len_draw : ∀ ds h Q X, S_draw ds h Q X → ds.length = 2 := fun ds h Q X ⟨n, p, m, e, _⟩ => by rw [e]; rfl
def S_pen : FSpec := fun ds h Q _ => ∃ js : List Int, ds = [.lk (js.map D.int)] ∧ ∀ p o, h p = none → PenO 0 o → Q (.ref p) (up h p o)
theorem mo_pen : MoF S_pen := fun ds h Q Q' X X' hq _ ⟨js, e, q⟩ => ⟨js, e, fun p o h1 h2 => hq _ _ (q p o h1 h2)⟩
theorem len_pen : ∀ ds h Q X, S_pen ds h Q X → ds.length = 1 := fun ds h Q X ⟨js, e, _⟩ => by rw [e]; rfl
def w_pen : WS := (wRet (wLst true (wCons (wB (dListOf false) (wCons (wSl false (wVar 0) woNone (woSome (wC (.int 63)))) wNil)) (wCons (wC (.int 0)) (wCons (wC (.int 0)) wNil)))))
theorem cut_to {α : Type} (xs : List α) (n : Nat) : cutD xs none (some (n : Int)) = xs.take n := by
  unfold cutD
  have e0 : HT.sIx xs.length 0 none = 0 := rfl
  rw [e0, List.drop_zero, Nat.sub_zero]
  rw [HT.sIx_nat]
  exact List.take_eq_take_min.symm
theorem p_pen : ∀ ds h Q X, S_pen ds h Q X → w_pen (endsD Q X) (startD 1 ds) h := by
  rintro ds h Q X ⟨js, rfl, q⟩
  show w_pen (endsD Q X) [some (.lk (js.map D.int))] h
  simp only [w_pen, u_asg, u_gN, u_ret, u_retN, u_skip, u_expr, u_ifs, u_c, u_op, u_neg, u_test, u_and, u_or, u_not, u_if, u_nil, u_cons, u_tup, u_lst, u_callP, u_call, u_b, u_chain, u_andV, u_addI, u_subI, u_mulI, u_divI, u_modI, u_powI, u_cmpI, u_eqI, u_eqS, u_eqB, u_abs, u_intI, u_intB, u_newT, u_newF, u_isN, u_notN, wVar, List.set_cons_zero, List.set_cons_succ, List.getElem?_cons_zero, List.getElem?_cons_succ, List.length_cons, List.length_nil, wSl, woNone, woSome, dSl, dListOf]
  refine ⟨_, _, rfl, rfl, (by decide : 3 ≤ sizeLine), fun p hp => fin_of (q p _ hp ⟨js.take 63, 0, 0, ?_, by simp; omega, by omega, by omega, by omega⟩)⟩
  rw [show (63 : Int) = ((63 : Nat) : Int) by rfl, cut_to, List.map_take]
def w_draw : WS := (wSeq (wIfS (wTest (wOp (dCmpI fun i j => decide (j < i)) (wOp dIx (wVar 0) (wC (.int 2))) (wC (.int 0)))) (wSeq (wAsg (wOp dMod (wOp dIx (wVar 0) (wC (.int 2))) (wVar 1)) (gN 2))
  (wSeq (wAsg (wOp dDiv (wOp dIx (wVar 0) (wC (.int 2))) (wVar 1)) (gSubL (wVar 0) (wC (.int 2))))
  (wRet (wVar 2)))) wSkip)
  (wSeq (wAsg (wOp dIx (wVar 0) (wC (.int 1))) (gN 3))
  (wSeq (wAsg (wOp (dAdd false) (wVar 3) (wC (.int 1))) (gSubL (wVar 0) (wC (.int 1))))
  (wSeq (wAsg (wOp (dAdd false) (wOp (dMul false) (wC (.int 70891)) (wVar 3)) (wC (.int 37))) (gN 4))
  (wSeq (wIfS (wTest (wOp (dEq fun b => !b) (wOp dIx (wVar 0) (wC (.int 0))) (wLst false wNil))) (wAsg (wOp dIx (wOp dIx (wVar 0) (wC (.int 0))) (wOp dMod (wVar 3) (wB dLen (wCons (wOp dIx (wVar 0) (wC (.int 0))) wNil)))) (gN 4)) wSkip)
  (wSeq (wIfS (wAnd (wTest (wOp (dCmpI fun i j => decide (i < j)) (wVar 3) (wB dLen (wCons (wOp dIx (wVar 0) (wC (.int 0))) wNil)))) (wTest (wOp (dCmpI fun i j => decide (j ≤ i)) (wB dAbs (wCons (wVar 4) wNil)) (wOp dPow (wC (.int 10)) (wC (.int 18)))))) (wSeq (wAsg (wOp (dAdd false) (wOp (dMul false) (wC (.int 2)) (wB dAbs (wCons (wVar 4) wNil))) (wB dInt (wCons (wOp (dCmpI fun i j => decide (i < j)) (wVar 4) (wC (.int 0))) wNil))) (gN 5))
  (wSeq (wAsg (wOp dDiv (wVar 5) (wVar 1)) (gSubL (wVar 0) (wC (.int 2))))
  (wRet (wOp dMod (wVar 5) (wVar 1))))) wSkip)
  (wSeq (wAsg (wOp dMod (wOp dPow (wOp (dAdd false) (wOp (dAdd false) (wOp (dAdd false) (wOp dMod (wVar 4) (wC (.int 2147483563))) (wOp (dMul false) (wOp (dMul false) (wC (.int 50147)) (wVar 3)) (wVar 3))) (wOp (dMul false) (wC (.int 30011)) (wVar 3))) (wC (.int 67))) (wC (.int 3))) (wC (.int 2147483647))) (gN 6))
  (wSeq (wAsg (wOp dMod (wOp dPow (wOp (dAdd false) (wOp (dAdd false) (wOp (dMul false) (wVar 6) (wOp (dAdd false) (wOp (dMul false) (wC (.int 2)) (wVar 3)) (wC (.int 40009)))) (wOp (dMul false) (wC (.int 17)) (wVar 3))) (wC (.int 11))) (wC (.int 5))) (wC (.int 2147483629))) (gN 6))
  (wRet (wOp dMod (wOp dDiv (wVar 6) (wC (.int 64))) (wVar 1)))))))))))
theorem atI_nat {α : Type} {xs : List α} {j : Nat} (h : j < xs.length) : atI xs (j : Int) = xs[j]? := by
  have h1 : ixN xs.length (j : Int) = some j := by
    unfold ixN
    simp; omega
  unfold atI
  rw [h1]; rfl
theorem mul_l {i j : Int} (h : -(2 ^ 64) < i ∧ i < 2 ^ 64) : MulOk i j := .inl h
theorem sq_le {a b : Int} (h0 : 0 ≤ a) (h : a ≤ b) : a * a ≤ b * b := Int.mul_le_mul h h h0 (by omega)
theorem p_draw : ∀ ds h Q X, S_draw ds h Q X → w_draw (endsD Q X) (startD 7 ds) h := by
  rintro ds h Q X ⟨n, p, m, rfl, ⟨_, hp, cs, at_, gr, rfl, l1, l2, l3, l4⟩, hn, dm, q⟩
  show w_draw (endsD Q X) [some (.ref p), some (.int m), none, none, none, none, none] h
  have hm : 0 < m := dm.1
  unfold w_draw
  rw [u_seq]
  simp only [u_asg, u_gN, u_ret, u_retN, u_skip, u_expr, u_ifs, u_c, u_op, u_neg, u_test, u_and, u_or, u_not, u_if, u_nil, u_cons, u_tup, u_lst, u_callP, u_call, u_b, u_chain, u_andV, u_addI, u_subI, u_mulI, u_divI, u_modI, u_powI, u_cmpI, u_eqI, u_eqS, u_eqB, u_abs, u_intI, u_intB, u_newT, u_newF, u_isN, u_notN, wVar, List.set_cons_zero, List.set_cons_succ, List.getElem?_cons_zero, List.getElem?_cons_succ, List.length_cons, List.length_nil, u_ixRd hp at2]
  by_cases c : 0 < gr
  · simp only [decide_eq_true c, if_true, u_seq, u_asg, u_gN, u_ret, u_retN, u_skip, u_expr, u_ifs, u_c, u_op, u_neg, u_test, u_and, u_or, u_not, u_if, u_nil, u_cons, u_tup, u_lst, u_callP, u_call, u_b, u_chain, u_andV, u_addI, u_subI, u_mulI, u_divI, u_modI, u_powI, u_cmpI, u_eqI, u_eqS, u_eqB, u_abs, u_intI, u_intB, u_newT, u_newF, u_isN, u_notN, wVar, List.set_cons_zero, List.set_cons_succ, List.getElem?_cons_zero, List.getElem?_cons_succ, List.length_cons, List.length_nil, u_ixRd hp at2, gSubL]
    refine ⟨hm, dm, p, _, 2, 2, rfl, rfl, hp, rfl, fin_of (q _ _ (Int.emod_nonneg _ (by omega)) (Int.emod_lt_of_pos _ hm) ⟨cs, at_, gr / m, rfl, l1, l2, by omega, Int.ediv_nonneg l4 (by omega)⟩)⟩
  simp only [decide_eq_false c, Bool.false_eq_true, if_false]
  rw [u_seq]
  simp only [u_asg, u_gN, u_ret, u_retN, u_skip, u_expr, u_ifs, u_c, u_op, u_neg, u_test, u_and, u_or, u_not, u_if, u_nil, u_cons, u_tup, u_lst, u_callP, u_call, u_b, u_chain, u_andV, u_addI, u_subI, u_mulI, u_divI, u_modI, u_powI, u_cmpI, u_eqI, u_eqS, u_eqB, u_abs, u_intI, u_intB, u_newT, u_newF, u_isN, u_notN, wVar, List.set_cons_zero, List.set_cons_succ, List.getElem?_cons_zero, List.getElem?_cons_succ, List.length_cons, List.length_nil, u_ixRd hp at1]
  rw [u_seq]
  simp only [u_asg, u_gN, u_ret, u_retN, u_skip, u_expr, u_ifs, u_c, u_op, u_neg, u_test, u_and, u_or, u_not, u_if, u_nil, u_cons, u_tup, u_lst, u_callP, u_call, u_b, u_chain, u_andV, u_addI, u_subI, u_mulI, u_divI, u_modI, u_powI, u_cmpI, u_eqI, u_eqS, u_eqB, u_abs, u_intI, u_intB, u_newT, u_newF, u_isN, u_notN, wVar, List.set_cons_zero, List.set_cons_succ, List.getElem?_cons_zero, List.getElem?_cons_succ, List.length_cons, List.length_nil, gSubL]
  refine ⟨p, _, 1, 1, rfl, rfl, hp, rfl, ?_⟩
  have e1 : ([D.lst (cs.map D.int), D.int at_, D.int gr].set 1 (D.int (at_ + 1))) = [D.lst (cs.map D.int), D.int (at_ + 1), D.int gr] := rfl
  rw [e1]
  have ug : ∀ o, up (up h p (.lst [D.lst (cs.map D.int), D.int (at_ + 1), D.int gr])) p o = up h p o := fun o => up_up
  have gp : (up h p (.lst [D.lst (cs.map D.int), D.int (at_ + 1), D.int gr])) p = some (.lst [D.lst (cs.map D.int), D.int (at_ + 1), D.int gr]) := up_same
  have fin0 : ∀ v, 0 ≤ v → v < m → Q (.int v) (up h p (.lst [D.lst (cs.map D.int), D.int (at_ + 1), D.int gr])) := fun v h1 h2 => q v _ h1 h2 ⟨cs, at_ + 1, gr, rfl, l1, by omega, by omega, l4⟩
  have fin1 : ∀ v g, 0 ≤ v → v < m → 0 ≤ g → Q (.int v) (up h p (.lst [D.lst (cs.map D.int), D.int (at_ + 1), D.int g])) := fun v g h1 h2 h3 => q v _ h1 h2 ⟨cs, at_ + 1, g, rfl, l1, by omega, by omega, h3⟩
  generalize hg : up h p (.lst [D.lst (cs.map D.int), D.int (at_ + 1), D.int gr]) = g at gp ug fin0 ⊢
  rw [u_seq]
  simp only [u_asg, u_gN, u_ret, u_retN, u_skip, u_expr, u_ifs, u_c, u_op, u_neg, u_test, u_and, u_or, u_not, u_if, u_nil, u_cons, u_tup, u_lst, u_callP, u_call, u_b, u_chain, u_andV, u_addI, u_subI, u_mulI, u_divI, u_modI, u_powI, u_cmpI, u_eqI, u_eqS, u_eqB, u_abs, u_intI, u_intB, u_newT, u_newF, u_isN, u_notN, wVar, List.set_cons_zero, List.set_cons_succ, List.getElem?_cons_zero, List.getElem?_cons_succ, List.length_cons, List.length_nil]
  refine ⟨mul_l (by decide), ?_⟩
  -- the cell
  refine seq_go (fun ρ h => g = h ∧ ∃ c : Int, ρ = [some (.ref p), some (.int m), none, some (.int at_), some (.int c), none, none]) (fun K k => ?_) ?_
  · simp only [u_asg, u_gN, u_ret, u_retN, u_skip, u_expr, u_ifs, u_c, u_op, u_neg, u_test, u_and, u_or, u_not, u_if, u_nil, u_cons, u_tup, u_lst, u_callP, u_call, u_b, u_chain, u_andV, u_addI, u_subI, u_mulI, u_divI, u_modI, u_powI, u_cmpI, u_eqI, u_eqS, u_eqB, u_abs, u_intI, u_intB, u_newT, u_newF, u_isN, u_notN, wVar, List.set_cons_zero, List.set_cons_succ, List.getElem?_cons_zero, List.getElem?_cons_succ, List.length_cons, List.length_nil, u_ixRd gp at0]
    refine ⟨Nat.zero_le _, eq_nil ?_⟩
    by_cases z : cs = []
    · rw [decide_eq_true z]
      exact k _ _ ⟨rfl, _, rfl⟩
    rw [decide_eq_false z]
    simp only [Bool.not_false, if_true, u_ixRd gp at0, u_lenL, u_modI, u_ixL]
    have lc : 0 < cs.length := List.length_pos_iff.mpr z
    have lp : (0 : Int) < ((cs.map D.int).length : Nat) := by rw [List.length_map]; omega
    refine ⟨lp, ?_⟩
    have a0 := Int.emod_nonneg at_ (show (((cs.map D.int).length : Nat) : Int) ≠ 0 by omega)
    have a1 := Int.emod_lt_of_pos at_ lp
    obtain ⟨j, ej⟩ := Int.eq_ofNat_of_zero_le a0
    rw [ej] at a1 ⊢
    rw [List.length_map] at a1
    have lj : j < cs.length := by omega
    refine ⟨.int cs[j], ?_, k _ _ ⟨rfl, _, rfl⟩⟩
    rw [atI_nat (by rw [List.length_map]; exact lj), List.getElem?_map, List.getElem?_eq_getElem lj]
    rfl
  rintro _ _ ⟨rfl, c, rfl⟩
  refine seq_go (fun ρ h => g = h ∧ ρ = [some (.ref p), some (.int m), none, some (.int at_), some (.int c), none, none]) (fun K k => ?_) ?_
  · simp only [u_asg, u_gN, u_ret, u_retN, u_skip, u_expr, u_ifs, u_c, u_op, u_neg, u_test, u_and, u_or, u_not, u_if, u_nil, u_cons, u_tup, u_lst, u_callP, u_call, u_b, u_chain, u_andV, u_addI, u_subI, u_mulI, u_divI, u_modI, u_powI, u_cmpI, u_eqI, u_eqS, u_eqB, u_abs, u_intI, u_intB, u_newT, u_newF, u_isN, u_notN, wVar, List.set_cons_zero, List.set_cons_succ, List.getElem?_cons_zero, List.getElem?_cons_succ, List.length_cons, List.length_nil, u_ixRd gp at0, u_lenL]
    have k := k _ _ ⟨rfl, rfl⟩
    by_cases z : at_ < ((cs.map D.int).length : Nat)
    · rw [decide_eq_true z]
      simp only [if_true]
      refine ⟨by refine ⟨by decide, by decide, by decide⟩, ?_⟩
      by_cases y : (10 ^ Int.toNat 18 : Int) ≤ if c < 0 then -c else c
      · rw [if_pos (decide_eq_true y)]
        simp only [u_seq, u_asg, u_gN, u_ret, u_retN, u_skip, u_expr, u_ifs, u_c, u_op, u_neg, u_test, u_and, u_or, u_not, u_if, u_nil, u_cons, u_tup, u_lst, u_callP, u_call, u_b, u_chain, u_andV, u_addI, u_subI, u_mulI, u_divI, u_modI, u_powI, u_cmpI, u_eqI, u_eqS, u_eqB, u_abs, u_intI, u_intB, u_newT, u_newF, u_isN, u_notN, wVar, List.set_cons_zero, List.set_cons_succ, List.getElem?_cons_zero, List.getElem?_cons_succ, List.length_cons, List.length_nil, gSubL]
        have nn : 0 ≤ 2 * (if c < 0 then -c else c) + (if decide (c < 0) = true then 1 else 0) := by split <;> split <;> omega
        refine ⟨mul_l (by decide), dm, p, _, 2, 2, rfl, rfl, gp, rfl, hm, fin_of ?_⟩
        rw [ug]
        exact fin1 _ _ (Int.emod_nonneg _ (by omega)) (Int.emod_lt_of_pos _ hm) (Int.ediv_nonneg nn (by omega))
      · rw [if_neg (by rw [decide_eq_false y]; decide)]
        exact k
    · rw [decide_eq_false z]
      exact k
  rintro _ _ ⟨rfl, rfl⟩
  simp only [u_seq, u_asg, u_gN, u_ret, u_retN, u_skip, u_expr, u_ifs, u_c, u_op, u_neg, u_test, u_and, u_or, u_not, u_if, u_nil, u_cons, u_tup, u_lst, u_callP, u_call, u_b, u_chain, u_andV, u_addI, u_subI, u_mulI, u_divI, u_modI, u_powI, u_cmpI, u_eqI, u_eqS, u_eqB, u_abs, u_intI, u_intB, u_newT, u_newF, u_isN, u_notN, wVar, List.set_cons_zero, List.set_cons_succ, List.getElem?_cons_zero, List.getElem?_cons_succ, List.length_cons, List.length_nil]
  have b1 : 0 ≤ c % 2147483563 := Int.emod_nonneg _ (by decide)
  have b2 : c % 2147483563 < 2147483563 := Int.emod_lt_of_pos _ (by decide)
  have b3 : at_ ≤ 1000000 := by omega
  have b4 : 50147 * at_ * at_ ≤ 50147 * 1000000000000 := by
    rw [Int.mul_assoc]
    have := sq_le l2 b3
    omega
  have b5 : 0 ≤ 50147 * at_ * at_ := Int.mul_nonneg (by omega) l2
  generalize e5 : 50147 * at_ * at_ = t at b4 b5 ⊢
  generalize e6 : (c % 2147483563 + t + 30011 * at_ + 67) = u
  have b6 : 0 ≤ u ∧ u < 2 ^ 63 := by omega
  generalize e7 : u ^ Int.toNat 3 % 2147483647 = v
  have b7 : 0 ≤ v ∧ v < 2147483647 := by rw [← e7]; exact ⟨Int.emod_nonneg _ (by decide), Int.emod_lt_of_pos _ (by decide)⟩
  have b8 : v * (2 * at_ + 40009) ≤ 2147483647 * (2 * 1000000 + 40009) := Int.mul_le_mul (by omega) (by omega) (by omega) (by omega)
  have b9 : 0 ≤ v * (2 * at_ + 40009) := Int.mul_nonneg b7.1 (by omega)
  refine ⟨by decide, mul_l (by decide), mul_l (by omega), mul_l (by decide), ⟨by decide, by decide, by omega⟩, by decide, mul_l (by decide), mul_l (by omega), mul_l (by decide), ⟨by decide, by decide, by omega⟩, by decide, ⟨by decide, .inl (by decide)⟩, hm, fin_of (fin0 _ (Int.emod_nonneg _ (by omega)) (Int.emod_lt_of_pos _ hm))⟩
end DL
namespace DL
open PySem PySem.Spec L2 C8
section
variable {ρ : EnvD} {h : AH} {Q : KD} {X : KX} {D0 : EndsD} {xs : List D} {p q : Addr} {o u : AO}
theorem up_get (hp : h p = none) (hq : h q = some o) : (up h p u) q = some o := by
  rw [up_ne (by rintro rfl; rw [hp] at hq; cases hq)]; exact hq
theorem endF (hp : h p = none) (k : Q (.lst xs) h) : endL false p Q (up h p (.lst xs)) := ⟨xs, up_same, by rw [rm_up, rm_none hp]; exact k⟩
theorem endT (k : Q (.ref p) (up h p (.lst xs))) : endL true p Q (up h p (.lst xs)) := ⟨xs, up_same, k⟩
theorem u_lc {m : Bool} {wi : WI} {g : WG} {tt : WT} {te : WE} {vs : List Nat} : wLc m wi g tt te vs ρ h Q X = wi ρ h (fun xs st h1 => ∀ p, h1 p = none → compD st g tt te vs ρ p xs (up h1 p (.lst [])) (endL m p Q)) X := rfl
theorem u_for {wi : WI} {g : WG} {tb : WS} : wFor wi g tb D0 ρ h = wi ρ h (fun xs st h1 => loopD st g tb D0 xs ρ h1) D0.ex := rfl
theorem u_r1 {l : WA} {R : List D → (AH → Prop) → AH → Prop} : iRng1 l ρ h R X = l ρ h (fun ds h1 => match ds with
  | [.int j] => -(2 ^ 62) ≤ j ∧ j < 2 ^ 62 ∧ R (intsD 0 j.toNat) (fun _ => True) h1
  | _ => False) X := rfl
theorem u_r2 {l : WA} {R : List D → (AH → Prop) → AH → Prop} : iRng2 l ρ h R X = l ρ h (fun ds h1 => match ds with
  | [.int i, .int j] => (-(2 ^ 62) ≤ i ∧ i < 2 ^ 62 ∧ -(2 ^ 62) ≤ j ∧ j < 2 ^ 62) ∧ R (intsD i (j - i).toNat) (fun _ => True) h1
  | _ => False) X := rfl
theorem u_r3 {l : WA} {R : List D → (AH → Prop) → AH → Prop} : iRng3 l ρ h R X = l ρ h (fun ds h1 => match ds with
  | [.int i, .int j, .int c] => ∃ n, RgC i j c n ∧ R (stepD i c n) (fun _ => True) h1
  | _ => False) X := rfl
theorem u_seqi {a : WE} {R : List D → (AH → Prop) → AH → Prop} : iSeq a ρ h R X = a ρ h (fun x h1 => match x with
  | .lst xs => R xs (fun _ => True) h1
  | .ref a => ∃ xs, h1 a = some (.lst xs) ∧ R xs (fun h => h a = some (.lst xs)) h1
  | _ => False) X := rfl
theorem u_tupi {a : WE} {R : List D → (AH → Prop) → AH → Prop} : iTupD a ρ h R X = a ρ h (fun x h1 => match x with
  | .tup xs => R xs (fun _ => True) h1
  | .tpl xs => R xs (fun _ => True) h1
  | _ => False) X := rfl
theorem u_num {l : WA} {R : List D → (AH → Prop) → AH → Prop} : iNum l ρ h R X = l ρ h (fun ds h1 => match ds with
  | [.tup xs] => R (numD xs) (fun _ => True) h1
  | _ => False) X := rfl
theorem u_notV {a : WE} : wNotV a ρ h Q X = a ρ h (fun x h1 => match x with
  | .bl b => Q (.bl (!b)) h1
  | _ => False) X := rfl
theorem u_yes {Q : Bool → AH → Prop} : wYes ρ h Q X = Q true h := rfl
theorem u_tupOf {ds : List D} : dTupOf ds h Q = ∃ x xs, ds = [x] ∧ seqOf h x = some xs ∧ Q (.tup xs) h := rfl
theorem u_w0 : wipeD ρ [] = ρ := rfl
theorem u_w1 {v : Nat} {vs : List Nat} : wipeD ρ (v :: vs) = (wipeD ρ vs).set v none := rfl
end
/-- tuple, list of ints -/
abbrev tpI (es : List Int) : D := .tup (es.map D.int)
abbrev lsI (es : List Int) : D := .lst (es.map D.int)
theorem at_last {es : List Int} (h : 0 < es.length) : atI (es.map D.int) (-1) = some (.int (es.getD (es.length - 1) 0)) := by
  have e : ixN (es.map D.int).length (-1) = some (es.length - 1) := by
    unfold ixN
    rw [List.length_map, if_neg (by omega), if_pos (by omega)]
    congr 1; omega
  unfold atI
  rw [e]
  show (es.map D.int)[es.length - 1]? = _
  have l : es.length - 1 < es.length := by omega
  rw [List.getElem?_map, List.getElem?_eq_getElem l, List.getD_eq_getElem?_getD, List.getElem?_eq_getElem l]
  rfl
theorem at_nth {es : List Int} {k : Nat} (h : k < es.length) : atI (es.map D.int) (k : Int) = some (.int (es.getD k 0)) := by
  rw [atI_nat (by rw [List.length_map]; exact h), List.getElem?_map, List.getElem?_eq_getElem h, List.getD_eq_getElem?_getD, List.getElem?_eq_getElem h]
  rfl
theorem mem_intsD {lo : Int} {n : Nat} {x : D} (h : x ∈ intsD lo n) : ∃ k : Nat, k < n ∧ x = .int (lo + k) := by
  unfold intsD at h
  obtain ⟨k, hk, rfl⟩ := List.mem_map.mp h
  exact ⟨k, List.mem_range.mp hk, rfl⟩
theorem mem_stepD {lo c : Int} {n : Nat} {x : D} (h : x ∈ stepD lo c n) : ∃ k : Nat, k < n ∧ x = .int (lo + k * c) := by
  unfold stepD at h
  obtain ⟨k, hk, rfl⟩ := List.mem_map.mp h
  exact ⟨k, List.mem_range.mp hk, rfl⟩
/-! ### how long a repr is -/
theorem txt_len (ts : List Str) : ∀ (k : Nat) (acc : Str), (textFrom k acc ts).length ≤ acc.length + (ts.map fun t => t.length + 2).sum := by
  induction ts with
  | nil => intro k acc; exact Nat.le_add_right _ _
  | cons t ts ih =>
    intro k acc
    have h := ih (k + 1) (acc ++ (if k > 0 then ", " else "" : String) ++ t)
    rw [Str.length_append, Str.length_append] at h
    have l2 : ((if k > 0 then ", " else "" : String) : Str).length ≤ 2 := by split <;> decide
    show (textFrom (k + 1) _ ts).length ≤ _
    rw [List.map_cons, List.sum_cons]
    omega
theorem lst_len (ts : List Str) : (listText ts).length ≤ 2 + (ts.map fun t => t.length + 2).sum := by
  have h := txt_len ts 0 "["
  unfold listText
  rw [Str.length_append]
  have l1 : (("[" : String) : Str).length = 1 := by decide
  have l2 : (("]" : String) : Str).length = 1 := by decide
  omega
theorem tup_len (ts : List Str) : (tupleText ts).length ≤ 3 + (ts.map fun t => t.length + 2).sum := by
  unfold tupleText
  rw [Str.length_append, Str.length_append]
  have l1 : (("(" : String) : Str).length = 1 := by decide
  have l2 : ((if ts.length == 1 then ",)" else ")" : String) : Str).length ≤ 2 := by split <;> decide
  by_cases e : ts = []
  · subst e
    have l3 : (Str.join ", " ([] : List Str)).length = 0 := by decide
    simp at l2 ⊢
    omega
  · have l3 := join_length_add ts e
    unfold piled at l3
    omega
theorem lg_lt {n k : Nat} (h : n < 2 ^ k) (hk : 0 < k) : n.log2 < k := by
  by_cases e : n = 0
  · subst e; exact hk
  · exact (Nat.log2_lt e).mpr h
theorem int_len {i : Int} {k : Nat} (hk : 0 < k) (h : i.natAbs < 2 ^ k) : (PyData.int i).shown.length ≤ k + 1 := by
  rw [PyData.shown]
  have e := int_text_length_le (a := i) hk (lg_lt h hk)
  show (Str.ofString (toString i)).length ≤ k + 1
  rw [ofString_length]; exact e
theorem all_len {ds : List PyData} {c : Nat} (h : ∀ d ∈ ds, d.shown.length ≤ c) : ((PyData.shownAll ds).map fun t => t.length + 2).sum ≤ ds.length * (c + 2) := by
  induction ds with
  | nil => rw [PyData.shownAll]; exact Nat.zero_le _
  | cons d ds ih =>
    rw [PyData.shownAll, List.map_cons, List.sum_cons, List.length_cons, Nat.add_mul]
    have h1 := h d (List.mem_cons_self ..)
    have h2 := ih fun e he => h e (List.mem_cons_of_mem _ he)
    omega
theorem lst_sub {h g : AH} {x : D} {xs : List D} (s : Sub h g) (e : lstOf h x = some xs) : lstOf g x = some xs := by
  cases x <;> first | exact e | skip
  rename_i a
  unfold lstOf at *
  dsimp only at *
  cases q : h a with
  | none => rw [q] at e; cases e
  | some o => rw [q] at e; rw [s _ _ q]; exact e
theorem seqi_go {ρ : EnvD} {h : AH} {X : KX} {c : Nat} {x : D} {xs : List D} {R : List D → (AH → Prop) → AH → Prop} (e : ρ[c]? = some (some x)) (hx : lstOf h x = some xs) (k : ∀ st : AH → Prop, (∀ g, Sub h g → st g) → R xs st h) : iSeq (wVar c) ρ h R X := by
  rw [u_seqi, u_var e]
  cases x with
  | lst ys =>
    obtain rfl : ys = xs := Option.some.inj hx
    exact k _ fun _ _ => trivial
  | ref a =>
    dsimp only
    unfold lstOf at hx
    dsimp only at hx
    cases q : h a with
    | none => rw [q] at hx; cases hx
    | some o =>
      rw [q] at hx
      cases o with
      | lst ys =>
        obtain rfl : ys = xs := Option.some.inj hx
        exact ⟨_, rfl, k _ fun g s => s _ _ q⟩
      | _ => cases hx
  | _ => cases hx
theorem len_of {h : AH} {x : D} {xs : List D} {Q : KD} (e : lstOf h x = some xs) (q : Q (.int (xs.length : Nat)) h) : dLen [x] h Q := by
  cases x with
  | lst ys =>
    obtain rfl : ys = xs := Option.some.inj e
    rw [u_lenL]; exact q
  | ref a =>
    unfold lstOf at e
    dsimp only at e
    cases z : h a with
    | none => rw [z] at e; cases e
    | some o =>
      rw [z] at e
      cases o with
      | lst ys =>
        obtain rfl : ys = xs := Option.some.inj e
        rw [u_lenR z]; exact q
      | _ => cases e
  | _ => cases e
theorem seq_of {h : AH} {x : D} {xs : List D} (e : lstOf h x = some xs) : seqOf h x = some xs := by
  cases x <;> first | exact e | (cases e; done)
end DL
namespace DL
open PySem PySem.Spec L2 C8
/-! ### repr of rows of small things -/
structure Rp (x : D) (k n : Nat) : Prop where
  da : dat x = true
  sh : (pd x).showable = true
  de : (pd x).depth ≤ k
  le : (pd x).shown.length ≤ n
theorem rp_go {x : D} {k n : Nat} {h : AH} {Q : KD} (r : Rp x k n) (hk : k ≤ 60) (hn : n ≤ 16000000) (c : cur h x = x) (q : Q (.str (pd x).shown) h) : dRepr [x] h Q :=
  ⟨x, rfl, by rw [c]; exact r.da, by rw [c]; exact r.sh, by rw [c]; exact Nat.le_trans r.de hk, by rw [c]; exact Nat.le_trans r.le (Nat.le_trans hn (by decide)), by rw [c]; exact q⟩
theorem rp_non : Rp .non 0 4 := ⟨rfl, rfl, by rw [pd, PyData.depth]; exact Nat.le_refl _, by rw [pd, PyData.shown]; decide⟩
theorem rp_bl (b : Bool) : Rp (.bl b) 0 5 := ⟨rfl, by rw [pd, PyData.showable], by rw [pd, PyData.depth]; exact Nat.le_refl _, by rw [pd, PyData.shown]; cases b <;> decide⟩
theorem rp_int {i : Int} {j : Nat} (hj : 0 < j) (hj2 : j ≤ 1900) (h : i.natAbs < 2 ^ j) : Rp (.int i) 0 (j + 1) :=
  ⟨rfl, by rw [pd, PyData.showable]; exact decide_eq_true (Nat.lt_of_lt_of_le (lg_lt h hj) (Nat.le_trans hj2 (by decide))), by rw [pd, PyData.depth]; exact Nat.le_refl _, by rw [pd]; exact int_len hj h⟩
theorem Rp.up {x : D} {k n l m : Nat} (r : Rp x k n) (h1 : k ≤ l) (h2 : n ≤ m) : Rp x l m := ⟨r.da, r.sh, Nat.le_trans r.de h1, Nat.le_trans r.le h2⟩
theorem rps {k n : Nat} : ∀ {xs : List D}, (∀ x ∈ xs, Rp x k n) → dats xs = true ∧ PyData.showableAll (pds xs) = true ∧ PyData.depthAll (pds xs) ≤ k ∧ ∀ d ∈ pds xs, d.shown.length ≤ n
  | [], _ => ⟨rfl, by rw [pds, PyData.showableAll], by rw [pds, PyData.depthAll]; exact Nat.zero_le _, fun d hd => by rw [pds] at hd; cases hd⟩
  | x :: xs, h => by
    obtain ⟨h1, h2, h3, h4⟩ := rps fun y hy => h y (List.mem_cons_of_mem _ hy)
    have r := h x (List.mem_cons_self ..)
    refine ⟨by rw [dats, r.da, h1]; rfl, by rw [pds, PyData.showableAll, r.sh, h2]; rfl, by rw [pds, PyData.depthAll]; exact Nat.max_le.mpr ⟨r.de, h3⟩, fun d hd => ?_⟩
    rw [pds] at hd
    rcases List.mem_cons.mp hd with rfl | hd
    · exact r.le
    · exact h4 d hd
theorem pds_len (xs : List D) : (pds xs).length = xs.length := by rw [pds_map, List.length_map]
theorem rp_lst {k n l : Nat} {xs : List D} (h : ∀ x ∈ xs, Rp x k n) (hl : xs.length ≤ l) : Rp (.lst xs) (k + 1) (2 + l * (n + 2)) := by
  obtain ⟨h1, h2, h3, h4⟩ := rps h
  refine ⟨h1, by rw [pd, PyData.showable]; exact h2, by rw [pd, PyData.depth]; omega, ?_⟩
  rw [pd, PyData.shown]
  refine Nat.le_trans (lst_len _) ?_
  have := all_len h4
  rw [pds_len] at this
  have := Nat.mul_le_mul_right (n + 2) hl
  omega
theorem rp_tup {k n l : Nat} {xs : List D} (h : ∀ x ∈ xs, Rp x k n) (hl : xs.length ≤ l) : Rp (.tup xs) (k + 1) (3 + l * (n + 2)) := by
  obtain ⟨h1, h2, h3, h4⟩ := rps h
  refine ⟨h1, by rw [pd, PyData.showable]; exact h2, by rw [pd, PyData.depth]; omega, ?_⟩
  rw [pd, PyData.shown]
  refine Nat.le_trans (tup_len _) ?_
  have := all_len h4
  rw [pds_len] at this
  have := Nat.mul_le_mul_right (n + 2) hl
  omega
end DL
namespace DL
open PySem PySem.Spec L2 C8
/-! ### the heap while a pen is drawn from: what stood in h0 stands, the pen apart -/
structure Inv0 (h0 : AH) (p : Addr) (m : Int) (h : AH) : Prop where
  pen : PenAt m h p
  old : ∀ b o, h0 b = some o → b ≠ p → h b = some o
  isp : ∃ o, h0 p = some o
section
variable {h0 h : AH} {p q : Addr} {m n : Int} {o : AO} {Q : KD} {X : KX}
theorem Inv0.start (e : PenAt m h p) : Inv0 h p m h := ⟨e, fun _ _ e _ => e, let ⟨o, e, _⟩ := e; ⟨o, e⟩⟩
theorem Inv0.mono (I : Inv0 h0 p m h) (l : m ≤ n) : Inv0 h0 p n h := ⟨let ⟨o, e, r⟩ := I.pen; ⟨o, e, r.mono l⟩, I.old, I.isp⟩
theorem Inv0.draw (I : Inv0 h0 p m h) (r : PenO n o) : Inv0 h0 p n (up h p o) := ⟨⟨o, up_same, r⟩, fun b u e c => by rw [up_ne c]; exact I.old b u e c, I.isp⟩
theorem Inv0.fresh (I : Inv0 h0 p m h) (e : h q = none) : h0 q = none ∧ q ≠ p := by
  obtain ⟨u, eu, _⟩ := I.pen
  have c : q ≠ p := by rintro rfl; rw [e] at eu; cases eu
  refine ⟨?_, c⟩
  cases z : h0 q with
  | none => rfl
  | some w => rw [I.old _ _ z c] at e; cases e
theorem Inv0.put (I : Inv0 h0 p m h) (e : h0 q = none) : Inv0 h0 p m (up h q o) := by
  have c : q ≠ p := by rintro rfl; obtain ⟨u, z⟩ := I.isp; rw [e] at z; cases z
  obtain ⟨u, eu, r⟩ := I.pen
  exact ⟨⟨u, by rw [up_ne c.symm]; exact eu, r⟩, fun b w z d => by rw [up_ne (by rintro rfl; rw [e] at z; cases z)]; exact I.old b w z d, I.isp⟩
theorem Inv0.new (I : Inv0 h0 p m h) (e : h q = none) : Inv0 h0 p m (up h q o) := I.put (I.fresh e).1
theorem Inv0.sub (I : Inv0 h0 p m h) : ∃ o, PenO m o ∧ Sub (up h0 p o) h := by
  obtain ⟨u, eu, r⟩ := I.pen
  refine ⟨u, r, fun b w z => ?_⟩
  by_cases c : b = p
  · subst c; rw [up_same] at z; cases z; exact eu
  · rw [up_ne c] at z; exact I.old _ _ z c
theorem draw_go {c : Int} (I : Inv0 h0 p m h) (lm : m < 1000000) (dc : DivOk c) (k : ∀ v o, 0 ≤ v → v < c → Inv0 h0 p (m + 1) (up h p o) → (∀ q, q ≠ p → up h p o q = h q) → Q (.int v) (up h p o)) : S_draw [.ref p, .int c] h Q X :=
  ⟨m, p, c, rfl, I.pen, lm, dc, fun v o h1 h2 r => k v o h1 h2 (I.draw r) fun q hq => up_ne hq⟩
end
theorem div_ok {c : Int} (h : 0 < c) (h2 : c < 1073741824) : DivOk c := ⟨h, .inl h2⟩
/-! ### dicts of ints -/
def toK (es : List (Int × Int)) : List (Key × D) := es.map fun e => ((Sum.inl e.1 : Key), D.int e.2)
theorem val_ints (es : List (Int × Int)) (a : Int) : ∃ z, (valD (toK es) (Sum.inl a)).getD (.int 0) = .int z ∧ (z = 0 ∨ ∃ e ∈ es, e.2 = z) := by
  induction es with
  | nil => exact ⟨0, rfl, .inl rfl⟩
  | cons e es ih =>
    obtain ⟨z, h1, h2⟩ := ih
    by_cases c : (Sum.inl e.1 : Key) = Sum.inl a
    · refine ⟨e.2, ?_, .inr ⟨e, List.mem_cons_self .., rfl⟩⟩
      show ((List.find? _ ((Sum.inl e.1, D.int e.2) :: toK es)).map _).getD _ = _
      rw [List.find?_cons_of_pos (by simpa using c)]; rfl
    · refine ⟨z, ?_, ?_⟩
      · show ((List.find? _ ((Sum.inl e.1, D.int e.2) :: toK es)).map _).getD _ = _
        rw [List.find?_cons_of_neg (by simpa using c)]; exact h1
      · rcases h2 with h2 | ⟨f, hf, h2⟩
        · exact .inl h2
        · exact .inr ⟨f, List.mem_cons_of_mem _ hf, h2⟩
theorem put_ints (es : List (Int × Int)) (a w : Int) : ∃ fs, putD (toK es) (Sum.inl a) (.int w) = toK fs ∧ fs.length ≤ es.length + 1 ∧ ∀ f ∈ fs, f ∈ es ∨ (f = (a, w)) := by
  unfold putD
  split
  · refine ⟨es.map fun e => if e.1 = a then (e.1, w) else e, ?_, by simp, ?_⟩
    · unfold toK
      rw [List.map_map, List.map_map]
      apply List.map_congr_left
      intro e _
      show (if (Sum.inl e.1 : Key) = Sum.inl a then ((Sum.inl e.1 : Key), D.int w) else (Sum.inl e.1, D.int e.2)) = _
      by_cases c : e.1 = a
      · rw [if_pos (by rw [c])]
        show _ = ((Sum.inl (if e.1 = a then (e.1, w) else e).1 : Key), D.int (if e.1 = a then (e.1, w) else e).2)
        rw [if_pos c]
      · rw [if_neg (by intro z; exact c (Sum.inl.inj z))]
        show _ = ((Sum.inl (if e.1 = a then (e.1, w) else e).1 : Key), D.int (if e.1 = a then (e.1, w) else e).2)
        rw [if_neg c]
    · intro f hf
      obtain ⟨e, he, rfl⟩ := List.mem_map.mp hf
      by_cases c : e.1 = a
      · right; simp [c]
      · left; simpa [c] using he
  · refine ⟨es ++ [(a, w)], by simp [toK], by simp, fun f hf => ?_⟩
    rcases List.mem_append.mp hf with h | h
    · exact .inl h
    · exact .inr (by simpa using h)
theorem dk_ref {h : AH} {a : Addr} {kvs : List (Key × D)} (e : h a = some (.dK kvs)) : dkOf h (.ref a) = some kvs := by
  simp [dkOf, e]
theorem lst_ref {h : AH} {a : Addr} {xs : List D} (e : h a = some (.lst xs)) : lstOf h (.ref a) = some xs := by
  simp [lstOf, e]
theorem seq_ref {h : AH} {a : Addr} {xs : List D} (e : h a = some (.lst xs)) : seqOf h (.ref a) = some xs := by
  simp [seqOf, lstOf, e]
/-- one of three -/
theorem at_three {x y z : Int} {v : Int} {h : AH} {Q : KD} (h0 : 0 ≤ v) (h3 : v < 3) (q : ∀ u, u = x ∨ u = y ∨ u = z → Q (.int u) h) : dIx (.lst [.int x, .int y, .int z]) (.int v) h Q := by
  have : v = 0 ∨ v = 1 ∨ v = 2 := by omega
  rcases this with rfl | rfl | rfl
  · exact ⟨_, _, rfl, at0, q _ (.inl rfl)⟩
  · exact ⟨_, _, rfl, at1, q _ (.inr (.inl rfl))⟩
  · exact ⟨_, _, rfl, at2, q _ (.inr (.inr rfl))⟩
/-- one of a list of ints -/
theorem at_some {es : List Int} {v : Int} {h : AH} {Q : KD} (h0 : 0 ≤ v) (h1 : v < es.length) (q : ∀ u ∈ es, Q (.int u) h) : dIx (.lst (es.map D.int)) (.int v) h Q := by
  obtain ⟨k, rfl⟩ := Int.eq_ofNat_of_zero_le h0
  have lk : k < es.length := by omega
  refine ⟨_, _, rfl, at_nth lk, q _ ?_⟩
  rw [List.getD_eq_getElem?_getD, List.getElem?_eq_getElem lk]
  exact List.getElem_mem lk
theorem at_ref {es : List Int} {v : Int} {h : AH} {Q : KD} {a : Addr} (e : h a = some (.lst (es.map D.int))) (h0 : 0 ≤ v) (h1 : v < es.length) (q : ∀ u ∈ es, Q (.int u) h) : dIx (.ref a) (.int v) h Q := by
  obtain ⟨k, rfl⟩ := Int.eq_ofNat_of_zero_le h0
  have lk : k < es.length := by omega
  refine ⟨_, _, seq_ref e, at_nth lk, q _ ?_⟩
  rw [List.getD_eq_getElem?_getD, List.getElem?_eq_getElem lk]
  exact List.getElem_mem lk
theorem ix_nat {n : Nat} {v : Int} (h0 : 0 ≤ v) (h1 : v < n) : ixN n v = some v.toNat := by
  unfold ixN; rw [if_pos h0, if_pos h1]
theorem max_two {x y : Int} {h : AH} {Q : KD} (q : Q (.int (max x y)) h) : dMax1 [.lst [.int x, .int y]] h Q := by
  refine ⟨_, [x, y], rfl, rfl, Nat.succ_pos _, fun m hm hy => ?_⟩
  have h1 := hy x (by simp)
  have h2 := hy y (by simp)
  have : m = x ∨ m = y := by simpa using hm
  have e : m = max x y := by omega
  rw [e]; exact q
theorem min_two {x y : Int} {h : AH} {Q : KD} (q : Q (.int (min x y)) h) : dMin1 [.lst [.int x, .int y]] h Q := by
  refine ⟨_, [x, y], rfl, rfl, Nat.succ_pos _, fun m hm hy => ?_⟩
  have h1 := hy x (by simp)
  have h2 := hy y (by simp)
  have : m = x ∨ m = y := by simpa using hm
  have e : m = min x y := by omega
  rw [e]; exact q
end DL
namespace DL
open PySem PySem.Spec L2 C8
section
variable {X : Cx} {E : XK} {e f o : Expr} {wo : WE} {wl : WA}
def rInsD : V → List V → Hp → VK → Prop := fun x vs H Q => ∃ (a : Addr) (us : List V) (j : Int) (z : V), x = .ref a ∧ vs = [.int j, z] ∧ H a = some (.lst us) ∧ us.length < sizeLine ∧ 0 ≤ j ∧ j < 2 ^ 63 ∧ Q .non (upd H a (.lst (us.take j.toNat ++ [z] ++ us.drop j.toNat)))
theorem dInsert_ok {K : PySem.W.Frag} : MeD K "list" rInsD dInsert isL where
  ty := isL_ty
  mo := fun hq ⟨a, xs, i, y, e1, e2, e3, e4, e5, e6, q⟩ => ⟨a, xs, i, y, e1, e2, e3, e4, e5, e6, hq _ _ q⟩
  to := by
    rintro F h H x ys vx vs Q S rx rs ⟨a, xs, i, y, rfl, rfl, e, l, i0, i1, q⟩
    cases rx
    cases rs with
    | cons r rs =>
      cases r
      cases rs with
      | cons r rs =>
        cases rs
        obtain ⟨_, u, hu, us, rfl, ru⟩ := S.ob _ _ e
        refine ⟨a, us, i, _, rfl, rfl, hu, by rw [← ru.length]; exact l, i0, by omega, q F _ _ (.refl F) (S.put e (o := .lst (xs.take i.toNat ++ [y] ++ xs.drop i.toNat)) ⟨_, rfl, ((ru.take i.toNat).append (.cons r .nil)).append (ru.drop i.toNat)⟩) .non⟩
theorem ae_insert {apos cpos : Pos} (ho : AE X E o wo) (ha : AA X E [e, f] wl) (hbase : attributeBase o "insert" X.env (eval o X.env) = eval o X.env := by rfl)
    (hfew : ((backTo cpos (starEach [e, f] X.env)).all (fun x => !x.1) && (backToKw cpos (keywordEach [] X.env)).all (fun x => x.1.isSome) && decide ([e, f].length + ([] : List Keyword).length + (if ([] : List Keyword).isEmpty then 0 else 1) < 30)) = true := by rfl)
    (hline : (apos.endLine == cpos.line) = true := by rfl) (hs : starEach [e, f] X.env = (false, eval e X.env) :: starEach [f] X.env := by rfl) (hplain : (backTo cpos (starEach [f] X.env)).any (·.1) = false := by rfl) :
    AE X E (.Call (.Attribute o "insert" apos) [e, f] [] cpos) (wMethT isL dInsert wo wl) :=
  ae_bm (rv := rInsD) dInsert_ok mt_insert PySem.F.plainAttrs_list PySem.F.slot_list_insert PySem.F.type_list_insert ho ha hbase hfew hline hs hplain
end
/-! ### defaults of keyword-only parameters -/
/-- parameters' values: picked, or the default -/
def pickE (ix : List (Nat ⊕ D)) (ds zs : List D) : List D := ix.map fun i => match i with
  | .inl i => ((ds ++ zs)[i]?).getD .non
  | .inr d => d
/-- one keyword-only parameter m that lacks: its default u stands in the def's dict -/
theorem Bnd.dflt {K : PySem.W.Frag} {fd : FuncData} {ps : List Str} {n : Nat} {ks : List Str} {Dk : Addr} {m : Str} {u : Value} {v : V} {d : D} (ix : List (Nat ⊕ D)) (jx : List (Option Nat))
    (hu : PySem.W.nsIn K Dk m = some (some u)) (rv : RelV v u) (rd : ∀ F, Rep K F d v)
    (hj : ix = jx.map fun j => match j with | some i => .inl i | none => .inr d) (hb : (jx.all fun j => match j with | some i => decide (i < n + ks.length) | none => true) = true)
    (h : ∀ us ws : List Value, us.length = n → ws.length = ks.length → KwChain Dk [(m, u)] (bindArgs fd ⟨us, ks.zip ws⟩) (ps.zip (jx.map fun j => match j with | some i => ((us ++ ws)[i]?).getD .none | none => u))) : Bnd K fd ps n ks (pickE ix) := by
  subst hj
  have hi : ∀ i, some i ∈ jx → i < n + ks.length := fun i h => of_decide_eq_true (List.all_eq_true.mp hb _ h)
  clear hb
  refine ⟨fun s F ds zs vs ys us ws X l1 l2 r1 r2 r3 r4 => ⟨jx.map fun j => match j with | some i => ((vs ++ ys)[i]?).getD .non | none => v, jx.map fun j => match j with | some i => ((us ++ ws)[i]?).getD .none | none => u, ?_, ?_,
    BindsTo.of_looks fun M => KwChain.looks X (fun q hq => by
      obtain rfl : q = (m, u) := by simpa using hq
      exact hu) (h us ws (by rw [← r2.length, ← r1.length]; exact l1) (by rw [← r4.length, ← r3.length]; exact l2))⟩⟩
  · have r := r1.append r3
    have l : (ds ++ zs).length = n + ks.length := by simp [l1, l2]
    clear h
    unfold pickE
    rw [List.map_map]
    induction jx with
    | nil => exact .nil
    | cons j jx ih =>
      refine .cons ?_ (ih fun i hi2 => hi i (List.mem_cons_of_mem _ hi2))
      cases j with
      | none => exact rd F
      | some i =>
        have li : i < (ds ++ zs).length := by rw [l]; exact hi i (List.mem_cons_self ..)
        obtain ⟨w, hw, rw_⟩ := r.get (List.getElem?_eq_getElem li)
        show Rep K F (((ds ++ zs)[i]?).getD .non) (((vs ++ ys)[i]?).getD .non)
        simp only [hw, List.getElem?_eq_getElem li]
        exact rw_
  · have r := r2.append r4
    have l : (vs ++ ys).length = n + ks.length := by simp [← r1.length, ← r3.length, l1, l2]
    clear h
    induction jx with
    | nil => exact .nil
    | cons j jx ih =>
      refine .cons ?_ (ih fun i hi2 => hi i (List.mem_cons_of_mem _ hi2))
      cases j with
      | none => exact rv
      | some i =>
        have li : i < (vs ++ ys).length := by rw [l]; exact hi i (List.mem_cons_self ..)
        obtain ⟨w, hw, rw_⟩ := r.get (List.getElem?_eq_getElem li)
        show RelV (((vs ++ ys)[i]?).getD .non) (((us ++ ws)[i]?).getD .none)
        simp only [hw, List.getElem?_eq_getElem li]
        exact rw_
end DL
namespace DL
open PySem PySem.Spec L2 C8
/-! ### == of data that hold no text -/
structure Fl (x : D) (k : Nat) : Prop where
  da : dat x = true
  cl : (pd x).canLay0 = true
  de : (pd x).depth ≤ k
theorem fl_non : Fl .non 0 := ⟨rfl, by rw [pd, PyData.canLay0], by rw [pd, PyData.depth]; exact Nat.le_refl _⟩
theorem fl_bl (b : Bool) : Fl (.bl b) 0 := ⟨rfl, by rw [pd, PyData.canLay0], by rw [pd, PyData.depth]; exact Nat.le_refl _⟩
theorem fl_int (i : Int) : Fl (.int i) 0 := ⟨rfl, by rw [pd, PyData.canLay0], by rw [pd, PyData.depth]; exact Nat.le_refl _⟩
theorem Fl.up {x : D} {k l : Nat} (r : Fl x k) (h : k ≤ l) : Fl x l := ⟨r.da, r.cl, Nat.le_trans r.de h⟩
theorem fls {k : Nat} : ∀ {xs : List D}, (∀ x ∈ xs, Fl x k) → dats xs = true ∧ PyData.canLayAll0 (pds xs) = true ∧ PyData.depthAll (pds xs) ≤ k
  | [], _ => ⟨rfl, by rw [pds, PyData.canLayAll0], by rw [pds, PyData.depthAll]; exact Nat.zero_le _⟩
  | x :: xs, h => by
    obtain ⟨h1, h2, h3⟩ := fls fun y hy => h y (List.mem_cons_of_mem _ hy)
    have r := h x (List.mem_cons_self ..)
    exact ⟨by rw [dats, r.da, h1]; rfl, by rw [pds, PyData.canLayAll0, r.cl, h2]; rfl, by rw [pds, PyData.depthAll]; exact Nat.max_le.mpr ⟨r.de, h3⟩⟩
theorem fl_lst {k : Nat} {xs : List D} (h : ∀ x ∈ xs, Fl x k) : Fl (.lst xs) (k + 1) := by
  obtain ⟨h1, h2, h3⟩ := fls h
  exact ⟨h1, by rw [pd, PyData.canLay0]; exact h2, by rw [pd, PyData.depth]; omega⟩
theorem fl_tup {k : Nat} {xs : List D} (h : ∀ x ∈ xs, Fl x k) : Fl (.tup xs) (k + 1) := by
  obtain ⟨h1, h2, h3⟩ := fls h
  exact ⟨h1, by rw [pd, PyData.canLay0]; exact h2, by rw [pd, PyData.depth]; omega⟩
theorem Fl.sh {x : D} {k : Nat} (r : Fl x k) (hk : k ≤ 64) : SeqAt.shaped (pd x) = true := by
  unfold SeqAt.shaped
  rw [r.cl, decide_eq_true (Nat.le_trans r.de hk)]; rfl
theorem Fl.eqv {x : D} {k : Nat} (r : Fl x k) : PyData.eqv (pd x) (pd x) = true := SeqAt.eqv_refl _ r.cl
theorem fl_pair (e : Int × Int) : Fl (pairD e) 1 := fl_tup fun x hx => by
  have : x = .int e.1 ∨ x = .int e.2 := by simpa using hx
  rcases this with rfl | rfl <;> exact fl_int _
theorem fl_pairs (es : List (Int × Int)) : ∀ x ∈ es.map pairD, Fl x 1 := fun x hx => by
  obtain ⟨e, _, rfl⟩ := List.mem_map.mp hx
  exact fl_pair e
section
variable {f : Bool → Bool} {xs ys : List D} {h : AH} {Q : KD} {k l : Nat} {a : Addr}
theorem same_tup (r : Fl (.tup xs) k) (hk : k ≤ 64) (q : Q (.bl (f true)) h) : dEq f (.tup xs) (.tup xs) h Q :=
  ⟨r.da, r.da, r.sh hk, r.sh hk, by show Q (.bl (f (PyData.eqv (pd (.tup xs)) (pd (.tup xs))))) h; rw [r.eqv]; exact q⟩
theorem same_lst (r : Fl (.lst xs) k) (hk : k ≤ 64) (q : Q (.bl (f true)) h) : dEq f (.lst xs) (.lst xs) h Q :=
  ⟨r.da, r.da, r.sh hk, r.sh hk, by show Q (.bl (f (PyData.eqv (pd (.lst xs)) (pd (.lst xs))))) h; rw [r.eqv]; exact q⟩
theorem fl_e : Fl (.lst []) 1 := fl_lst (k := 0) fun x hx => by cases hx
/-- a list, and the empty one -/
theorem nil_lst (r : Fl (.lst xs) k) (hk : k ≤ 64) (q : Q (.bl (f xs.isEmpty)) h) : dEq f (.lst xs) (.lst []) h Q := by
  refine ⟨r.da, rfl, r.sh hk, fl_e.sh (by decide), ?_⟩
  show Q (.bl (f (PyData.eqv (pd (.lst xs)) (pd (.lst []))))) h
  rw [pd, pd, PyData.eqv]
  cases xs with
  | nil => rw [pds, PyData.eqvAll]; exact q
  | cons x xs => rw [pds, pds, PyData.eqvAll]; exact q
theorem nil_ref (e : h a = some (.lst xs)) (r : Fl (.lst xs) k) (hk : k ≤ 64) (q : Q (.bl (f xs.isEmpty)) h) : dEq f (.ref a) (.lst []) h Q := by
  have c : cur h (.ref a) = .lst xs := by simp [cur, e]
  refine ⟨by rw [c]; exact r.da, rfl, by rw [c]; exact r.sh hk, fl_e.sh (by decide), ?_⟩
  rw [c]
  show Q (.bl (f (PyData.eqv (pd (.lst xs)) (pd (.lst []))))) h
  rw [pd, pd, PyData.eqv]
  cases xs with
  | nil => rw [pds, PyData.eqvAll]; exact q
  | cons x xs => rw [pds, pds, PyData.eqvAll]; exact q
end
end DL
namespace DL
open PySem PySem.Spec L2 C8
/-! ### attributes -/
def insOf (h : AH) : D → Option (Addr × List (Str × D))
  | .ob C fs => some (C, fs)
  | .ref a => match h a with
    | some (.ins C fs) => some (C, fs)
    | _ => none
  | _ => none
def putFD (f : Str) (d : D) : List (Str × D) → List (Str × D)
  | [] => [(f, d)]
  | (g, x) :: r => if g = f then (g, d) :: r else (g, x) :: putFD f d r
section
variable {K : PySem.W.Frag} {F : Hp} {h : AH} {H : Hp}
theorem RepF.look : ∀ {fs : List (Str × D)} {vs : List (Str × V)} {f : Str} {d : D}, RepF K F fs vs → fs.lookup f = some d → ∃ v, vs.lookup f = some v ∧ Rep K F d v
  | _, _, f, d, .nil, e => by simp at e
  | _, _, f, d, @RepF.cons _ _ k x v xs vs r t, e => by
    cases c : f == k with
    | true =>
      simp only [List.lookup_cons, c] at e ⊢
      cases e
      exact ⟨v, rfl, r⟩
    | false =>
      simp only [List.lookup_cons, c] at e ⊢
      exact RepF.look t e
theorem RepF.put {f : Str} {d : D} {v : V} (r : Rep K F d v) : ∀ {fs : List (Str × D)} {vs : List (Str × V)}, RepF K F fs vs → RepF K F (putFD f d fs) (putF f v vs)
  | _, _, .nil => .cons r .nil
  | _, _, @RepF.cons _ _ k x u xs us q t => by
    show RepF K F (if k = f then (k, d) :: xs else (k, x) :: putFD f d xs) (if k = f then (k, v) :: us else (k, u) :: putF f v us)
    by_cases c : k = f
    · rw [if_pos c, if_pos c]; exact .cons r t
    · rw [if_neg c, if_neg c]; exact .cons q (RepF.put r t)
theorem RepF.length : ∀ {fs : List (Str × D)} {vs : List (Str × V)}, RepF K F fs vs → fs.length = vs.length
  | _, _, .nil => rfl
  | _, _, .cons _ t => by simp [RepF.length t]
theorem Sim.insOf {d : D} {v : V} {C : Addr} {fs : List (Str × D)} (S : Sim K F h H) (r : Rep K F d v) (e : DL.insOf h d = some (C, fs)) : ∃ a dx vs, v = .ref a ∧ H a = some (.ins C dx vs) ∧ RepF K F fs vs := by
  cases r with
  | ref a =>
    cases q : h a with
    | none => simp [DL.insOf, q] at e
    | some o =>
      cases o with
      | ins C' gs =>
        simp only [DL.insOf, q, Option.some.injEq, Prod.mk.injEq] at e
        obtain ⟨rfl, rfl⟩ := e
        obtain ⟨_, u, hu, dx, vs, rfl, rs⟩ := S.ob _ _ q
        exact ⟨a, dx, vs, rfl, hu, rs⟩
      | _ => simp [DL.insOf, q] at e
  | @ob a C' dx xs vs hf rs =>
    simp only [DL.insOf, Option.some.injEq, Prod.mk.injEq] at e
    obtain ⟨rfl, rfl⟩ := e
    exact ⟨a, dx, vs, rfl, S.fz _ _ hf, rs⟩
  | _ => simp [DL.insOf] at e
end
section
variable {X : Cx} {E : XK} {gz : Bool} {k : Nat} {o value e : Expr} {es : List Expr} {wo wv : WE} {wl : WA} {pos pos' p : Pos} {f x : Str} {C : Addr}
/-- e.f of an instance of C -/
def wFld (C : Addr) (f : Str) (wo : WE) : WE := fun ρ h Q X => wo ρ h (fun x h1 => ∃ fs d, insOf h1 x = some (C, fs) ∧ fs.lookup f = some d ∧ Q d h1) X
theorem ae_fld (c : Cls X.K C) (n : NoAttr X.K C f) (ho : AE X E o wo) (hb : attributeBase o f X.env (eval o X.env) = eval o X.env := by rfl) : AE X E (.Attribute o f pos) (wFld C f wo) := by
  refine ⟨PE.imp (pe_fld ho.run hb) fun σ H Q ⟨F, ρ, h, S, R, q⟩ => ?_, fun ρ h Q Q' X X' hq hx q => ho.mo _ _ _ _ _ _ (fun x h1 ⟨fs, d, e1, e2, z⟩ => ⟨fs, d, e1, e2, hq _ _ z⟩) hx q⟩
  refine ⟨F, ρ, h, S, R, ho.mo _ _ _ _ _ _ (fun x h1 z => ?_) (fun _ _ z => z) q⟩
  intro F1 H1 v e1 S1 r
  obtain ⟨fs, d, ei, el, z⟩ := z
  obtain ⟨a, dx, vs, rfl, ha, rs⟩ := S1.insOf r ei
  obtain ⟨w, hw, rw'⟩ := rs.look el
  exact ⟨a, C, dx, vs, w, rfl, ha, c, n, hw, z F1 H1 w e1 S1 rw'⟩
/-- o.f = value -/
def wSetF (C : Addr) (f : Str) (wo wv : WE) : WS := fun D ρ h => wv ρ h (fun z h1 => wo ρ h1 (fun x h2 => ∃ a fs, x = .ref a ∧ h2 a = some (.ins C fs) ∧ fs.length < 1000 ∧ D.nx ρ (up h2 a (.ins C (putFD f z fs)))) D.ex) D.ex
theorem as_fld (c : Cls X.K C) (n : NoAttr X.K C f) (ho : AE X E o wo) (hv : AE X E value wv) (hs : swapsWith value (some (.Attribute o f pos')) pos.line X.env = pure false := by rfl) : AS X E (.Assign [.Attribute o f pos'] value pos) (wSetF C f wo wv) := by
  refine ⟨PS.imp (ps_fld ho.run hv.run hs) fun D σ H ⟨F, ρ, h, S, R, q⟩ => ?_, fun D D' ρ h l q => hv.mo _ _ _ _ _ _ (fun z h1 q => ho.mo _ _ _ _ _ _ (fun x h2 ⟨a, fs, e1, e2, e3, q⟩ => ⟨a, fs, e1, e2, e3, l.nx _ _ q⟩) l.ex q) l.ex q⟩
  refine ⟨F, ρ, h, S, R, hv.mo _ _ _ _ _ _ (fun z h1 q => ?_) (fun _ _ z => z) q⟩
  intro F1 H1 vz e1 S1 rz
  refine ⟨F1, ρ, h1, S1, R.ext e1, ho.mo _ _ _ _ _ _ (fun x h2 q => ?_) (fun _ _ z => LX.ext e1 z) q⟩
  intro F2 H2 vx e2 S2 rx
  obtain ⟨a, fs, rfl, ea, l, q⟩ := q
  cases rx
  obtain ⟨_, u, hu, dx, vs, rfl, rs⟩ := S2.ob _ _ ea
  exact ⟨a, C, dx, vs, rfl, hu, c, n, by rw [← rs.length]; exact l, q F2 _ σ (e1.trans e2) (S2.put ea (o := .ins C (putFD f z fs)) ⟨dx, _, rfl, rs.put (rz.ext e2)⟩) (R.ext (e1.trans e2))⟩
/-- C(e, ..): made, then taken as what does not change -/
def wMake (C : Addr) (S : FSpec) (wl : WA) : WE := fun ρ h Q X => wl ρ h (fun ds h1 => ∀ a, h1 a = none → S (.ref a :: ds) (up h1 a (.ins C [])) (fun v h2 => v = .non ∧ ∃ fs, h2 a = some (.ins C fs) ∧ Q (.ob C fs) (rm h2 a)) X) X
theorem make_to {K : PySem.W.Frag} {S : FSpec} (mo : MoF S) {F : Hp} {h : AH} {H : Hp} {ds : List D} {vs : List V} {Q : VK} {E : XK} (S0 : Sim K F h H) (r : Reps K F ds vs)
    (q : ∀ a, h a = none → S (.ref a :: ds) (up h a (.ins C [])) (fun v h2 => v = .non ∧ ∃ fs, h2 a = some (.ins C fs) ∧ LQ K F Q (.ob C fs) (rm h2 a)) (LX K F E)) :
    ∀ x dx, H x = none → H dx = none → dx ≠ x → spD K S (V.ref x :: vs) (upd (upd H dx (.own x)) x (.ins C dx [])) (fun v H2 => v = .non ∧ Q (.ref x) H2) E := by
  intro x dx hx hd ne
  have S1 := S0.newF hd (.own x)
  have e1 := ext_upd (o := HO.own x) (S0.free hd).1
  have hx1 : (upd H dx (.own x)) x = none := by rw [upd_ne ne.symm]; exact hx
  have S2 := S1.newM hx1 (o := .ins C []) (u := .ins C dx []) ⟨dx, [], rfl, .nil⟩
  refine ⟨_, .ref x :: ds, _, S2, .cons (.ref x) (r.ext e1), mo _ _ _ _ _ _ (fun v h2 z => ?_) (fun _ _ z => LX.ext e1 z) (q x (S0.free hx).2)⟩
  obtain ⟨rfl, fs, ef, z⟩ := z
  intro F3 H3 w e3 S3 rw'
  cases rw'
  refine ⟨rfl, ?_⟩
  obtain ⟨_, u, hu, dy, us, rfl, rs⟩ := S3.ob _ _ ef
  obtain ⟨e4, S4⟩ := S3.frz ef hu rm_same rm_sub
  exact z _ _ _ (e1.trans (e3.trans e4)) S4 (.ob upd_same (rs.ext e4))
/-- what a positional call of a def promises -/
abbrev FnRD (P : Program) (w : World) (K : PySem.W.Frag) (mg : Str → Option Value) (base : Heap) (k : Nat) (f : Addr) (S : FSpec) : Prop := FnR P w K mg base (L2.CX P w) k f fun vs H Q E => spD K S vs H Q E
theorem ae_make {j : Nat} {fI : Addr} {S : FSpec} (c : Cg gz X E k) (M : Mk X.K C fI) (G : FnRD X.prog X.w X.K X.mg X.base j fI S) (mo : MoF S) (hj : j + 1 ≤ k) (hm : X.mg x = some (.ref C)) (ha : AA X E (e :: es) wl)
    (hg : Gl X x := by rfl) (hdb : (x == ("__debug__" : Str)) = false := by decide) (he : starEach (e :: es) X.env = (false, eval e X.env) :: starEach es X.env := by rfl)
    (hpl : (backTo pos (starEach es X.env)).any (·.1) = false := by rfl) : AE X E (.Call (.Name x p) (e :: es) [] pos) (wMake C S wl) := by
  refine ⟨PE.imp (StX.pe_makeR M G (c.room.mono hj) hg hm c.ps ha.run hdb he hpl) fun σ H Q ⟨F, ρ, h, S0, R, q⟩ => ?_, fun ρ h Q Q' X X' hq hx q => ha.mo _ _ _ _ _ _ (fun ds h1 z a hz => mo _ _ _ _ _ _ (fun v h2 ⟨e1, fs, e2, z⟩ => ⟨e1, fs, e2, hq _ _ z⟩) hx (z a hz)) hx q⟩
  refine ⟨F, ρ, h, S0, R, ha.mo _ _ _ _ _ _ (fun ds h1 z => ?_) (fun _ _ z => z) q⟩
  intro F1 H1 vs e1 S1 rs
  exact make_to mo S1 rs fun a ha => mo _ _ _ _ _ _ (fun v h2 ⟨z1, fs, z2, z⟩ => ⟨z1, fs, z2, LQ.ext e1 z⟩) (fun _ _ z => LX.ext e1 z) (z a ha)
end
end DL
namespace DL
open PySem PySem.Spec L2 C8
section
variable {P : Program} {w : World} {K : PySem.W.Frag} {mg : Str → Option Value} {base : Heap} {k : Nat} {f : Addr} {fd : FuncData} {ps : List Str} {S : FSpec}
/-- a def called with all its parameters by place -/
theorem frd_plain (G : FnG false P w K mg base k f fd ps S) (B : Bnd K fd ps ps.length [] (fun ds _ => ds)) : FnRD P w K mg base k f S := by
  intro A outer s H us vs Q E hr e0 r hs
  obtain ⟨F, ds, g, S0, r0, q⟩ := hs
  have X : K.In s.heap := e0.mod.kin.keeps fun b o e => (e0.bs b o e).1
  obtain ⟨xs, ts, rx, rt, bt⟩ := B.to s F ds [] vs [] us [] X (G.len _ _ _ _ q) rfl r0 r .nil .nil
  exact G.run hr (fun z => Bool.noConfusion z) e0 bt rt ⟨F, ds, g, S0, rx, q⟩
theorem FnRD.mono {j : Nat} (G : FnRD P w K mg base j f S) (h : j ≤ k) : FnRD P w K mg base k f S := fun A outer s H us vs Q E hr => G A outer s H us vs Q E (hr.mono h)
/-- what a def with n parameters and a starred one promises by place -/
def starS (n : Nat) (S : FSpec) : FSpec := fun ds h Q X => n ≤ ds.length ∧ (ds.drop n).length ≤ sizeLine ∧ S (ds.take n ++ [.tup (ds.drop n)]) h Q X
theorem starS_mo {n : Nat} (mo : MoF S) : MoF (starS n S) := fun _ _ _ _ _ _ hq hx ⟨a, b, q⟩ => ⟨a, b, mo _ _ _ _ _ _ hq hx q⟩
theorem frd_star {x qual : Str} {st : Stmt} {N : List Str} {pv : Str} {W : WS} (Fn : L2.Fun K x qual st f fd) (sc : FnScope N (ps ++ [pv]) (defScope st)) (len : ∀ ds h Q X, S ds h Q X → ds.length = (ps ++ [pv]).length) (mo : MoF S)
    (hb : ∀ (kV doc pm : Value) (an : Option Addr) (cdv ct : Value) (us rest : List Value), us.length = ps.length → bindArgs (PySem.W.fnOf x qual (defArgs st) (defBody st) (defScope st) .none kV doc pm an cdv ct) ⟨us ++ rest, []⟩ = (newTuple rest >>= fun t => pure (ps.zip us ++ [(pv, t)])))
    (body : ∀ (cdv : Value) (A : Around) (outer : List PySem.Env) (s : Shared) (H : Hp) (E : XK), Cg false (cxOf (L2.CX P w) P w K mg base N qual (defScope st) f cdv A outer s H E) E k →
      ASs (cxOf (L2.CX P w) P w K mg base N qual (defScope st) f cdv A outer s H E) E (defBody st) W)
    (pure : ∀ ds h Q X, S ds h Q X → W (endsD Q X) (startD N.length ds) h) : FnRD P w K mg base (k + 1) f (starS ps.length S) := by
  obtain ⟨oc, od, kV, doc, pm, an, cdv, ct, osl, rfl, lk, hcd⟩ := Fn.ex
  have R := StX.fn_star (P := P) (w := w) (mg := mg) (base := base) (k := k) (sp := fun vs H Q E => spD K S vs H Q E) lk hcd sc StX.cxUp (hb kV doc pm an cdv ct) (fun A outer s H vs Q E hr hs => by
    have c : Cg false (cxOf (L2.CX P w) P w K mg base N qual (defScope st) f cdv A outer s H E) E k :=
      ⟨hr, fun z => Bool.noConfusion z, rfl, sc.nd, passes_call (takes_of rfl rfl rfl rfl) fun _ _ _ _ z => z, passes_of rfl⟩
    obtain ⟨F0, ds, g, S0, r0, q0⟩ := hs
    have B := body cdv A outer s H E c
    refine ⟨_, B.run, F0, _, g, S0, start_env r0, B.mo (endsD (LQ K F0 Q) (LX K F0 E)) _ _ _ ⟨fun ρ h z => ?_, fun d h z => LQ.fin z, fun _ _ z => False.elim z, fun _ _ z => False.elim z, fun _ _ z => z⟩ (pure ds g _ _ q0)⟩
    exact fun F' H' σ' e S' _ => LQ.fin z F' H' .non e S' .non)
  refine R.imp fun vs H Q E hs => ?_
  obtain ⟨F, ds, g, S0, r0, l1, l2, q⟩ := hs
  refine ⟨vs.take ps.length, vs.drop ps.length, (List.take_append_drop _ _).symm, by rw [List.length_take, ← r0.length]; omega, by rw [← (r0.drop ps.length).length]; exact l2, fun p hp => ?_⟩
  have x1 := ext_upd (o := HO.tup (vs.drop ps.length)) (S0.free hp).1
  exact ⟨_, _, g, S0.newF hp _, ((r0.take ps.length).ext x1).append (.cons (.tup (.of upd_same) ((r0.drop ps.length).ext x1)) .nil), mo _ _ _ _ _ _ (fun _ _ z => LQ.ext x1 z) (fun _ _ z => LX.ext x1 z) q⟩
end
section
variable {X : Cx} {E : XK} {gz : Bool} {k j : Nat} {o value e fe : Expr} {es : List Expr} {wo wv we : WE} {wl : WA} {pos pos' p sp_ : Pos} {f x m : Str} {C fI g : Addr} {S : FSpec}
/-- C() -/
theorem ae_make0 (c : Cg gz X E k) (M : Mk X.K C fI) (G : FnRD X.prog X.w X.K X.mg X.base j fI S) (mo : MoF S) (hj : j + 1 ≤ k) (hm : X.mg x = some (.ref C))
    (hg : Gl X x := by rfl) (hdb : (x == ("__debug__" : Str)) = false := by decide) : AE X E (.Call (.Name x p) [] [] pos) (wMake C S wNil) := by
  refine ⟨⟨fun pins s σ H Q I hq => ?_⟩, fun ρ h Q Q' X X' hq hx q a hz => mo _ _ _ _ _ _ (fun v h2 ⟨e1, fs, e2, z⟩ => ⟨e1, fs, e2, hq _ _ z⟩) hx (q a hz)⟩
  obtain ⟨F, ρ, h, S0, R, q⟩ := hq
  refine wpAny_Call_Name_kw (ld_glob I hg hm ?_ hdb)
  exact PySem.W.callWith_K0 (first := []) I.kIn M.kp (StX.run_makeR (us := []) (vs := []) M G (c.room.mono hj) c.ps I .nil (make_to mo S0 .nil q))
/-- C(*e) -/
def wMakeS (C : Addr) (S : FSpec) (we : WE) : WE := fun ρ h Q X => we ρ h (fun y h1 => ∃ ds, seqOf h1 y = some ds ∧ ∀ a, h1 a = none → S (.ref a :: ds) (up h1 a (.ins C [])) (fun v h2 => v = .non ∧ ∃ fs, h2 a = some (.ins C fs) ∧ Q (.ob C fs) (rm h2 a)) X) X
theorem ae_makeS (c : Cg gz X E k) (M : Mk X.K C fI) (G : FnRD X.prog X.w X.K X.mg X.base j fI S) (mo : MoF S) (hj : j + 1 ≤ k) (hm : X.mg x = some (.ref C)) (he : AE X E e we)
    (hg : Gl X x := by rfl) (hdb : (x == ("__debug__" : Str)) = false := by decide) (hst : starEach [.Starred e sp_] X.env = [(true, eval e X.env)] := by rfl) : AE X E (.Call (.Name x p) [.Starred e sp_] [] pos) (wMakeS C S we) := by
  refine ⟨⟨fun pins s σ H Q I hq => ?_⟩, fun ρ h Q Q' X X' hq hx q => he.mo _ _ _ _ _ _ (fun y h1 ⟨ds, e0, z⟩ => ⟨ds, e0, fun a hz => mo _ _ _ _ _ _ (fun v h2 ⟨e1, fs, e2, z⟩ => ⟨e1, fs, e2, hq _ _ z⟩) hx (z a hz)⟩) hx q⟩
  obtain ⟨F, ρ, h, S0, R, q⟩ := hq
  refine wpAny_Call_Name_kw (ld_glob I hg hm ?_ hdb)
  refine PySem.W.callWith_S (h₀ := X.base) I.ok.mod.kin M.kp (thn (he.run.run pins s σ H (fun y H1 => ∃ a xs, y = V.ref a ∧ (SqT X.K H1 a xs ∨ SqL X.K H1 a xs) ∧ ∀ x dx, H1 x = none → H1 dx = none → dx ≠ x → spD X.K S (V.ref x :: xs) (upd (upd H1 dx (.own x)) x (.ins C dx [])) (fun v H2 => v = .non ∧ Q (.ref x) H2) E) I
    ⟨F, ρ, h, S0, R, he.mo _ _ _ _ _ _ (fun y h1 z F1 H1 v e1 S1 r => ?_) (fun _ _ z => z) q⟩) fun v s1 ⟨y, H1, I1, ry, a, xs, ey, hxs, q1⟩ => ?_) hst
  · obtain ⟨ds, e0, z⟩ := z
    obtain ⟨a, vs, rfl, hs, rs⟩ := S1.seqOf r e0
    exact ⟨a, vs, rfl, hs.symm, make_to mo S1 rs fun a ha => mo _ _ _ _ _ _ (fun v h2 ⟨z1, fs, z2, z⟩ => ⟨z1, fs, z2, LQ.ext e1 z⟩) (fun _ _ z => LX.ext e1 z) (z a ha)⟩
  · subst ey
    obtain rfl : v = Value.ref a := ry
    exact StX.star_any I1 hxs fun us s2 I2 rv => ⟨I2.kIn, StX.run_makeR M G (c.room.mono hj) c.ps I2 rv q1⟩
/-- f(e, ..), f an instance of C -/
def wCallO (C : Addr) (S : FSpec) (wo : WE) (wl : WA) : WE := fun ρ h Q X => wo ρ h (fun y h1 => wl ρ h1 (fun ds h2 => (∃ fs, insOf h2 y = some (C, fs)) ∧ S (y :: ds) h2 Q X) X) X
theorem ae_callO (c : Cg gz X E k) (cc : StX.CallO X.K C g) (G : FnRD X.prog X.w X.K X.mg X.base j g S) (mo : MoF S) (hj : j ≤ k) (hf : AE X E fe wo) (ha : AA X E (e :: es) wl)
    (isr : ∀ (y : D) (h : AH) (fs : List (Str × D)), insOf h y = some (C, fs) → True := fun _ _ _ _ => trivial)
    (ht : eval (.Call fe (e :: es) [] pos) X.env = (do callWith pos (← eval fe X.env) [] (backTo pos (starEach (e :: es) X.env)) (backToKw pos (keywordEach [] X.env))) := by rfl)
    (he : starEach (e :: es) X.env = (false, eval e X.env) :: starEach es X.env := by rfl) (hpl : (backTo pos (starEach es X.env)).any (·.1) = false := by rfl) : AE X E (.Call fe (e :: es) [] pos) (wCallO C S (fun ρ h Q X => wo ρ h (fun y h1 => (∃ fs, insOf h1 y = some (C, fs)) ∧ Q y h1) X) wl) := by
  refine ⟨PE.imp (StX.pe_callO hf.run cc (G.mono hj) c.room c.ps ha.run ht he hpl) fun σ H Q ⟨F, ρ, h, S0, R, q⟩ => ?_, fun ρ h Q Q' X X' hq hx q => hf.mo _ _ _ _ _ _ (fun y h1 z => ⟨z.1, ha.mo _ _ _ _ _ _ (fun ds h2 z => ⟨z.1, mo _ _ _ _ _ _ hq hx z.2⟩) hx z.2⟩) hx q⟩
  refine ⟨F, ρ, h, S0, R, hf.mo _ _ _ _ _ _ (fun y h1 z => ?_) (fun _ _ z => z) q⟩
  intro F1 H1 v e1 S1 r
  obtain ⟨⟨fs, ei⟩, z⟩ := z
  obtain ⟨a, dx, vs, rfl, _, _⟩ := S1.insOf r ei
  refine ⟨a, rfl, F1, ρ, h1, S1, R.ext e1, ha.mo _ _ _ _ _ _ (fun ds h2 z => ?_) (fun _ _ z => LX.ext e1 z) z⟩
  intro F2 H2 us e2 S2 rs
  obtain ⟨⟨fs2, ei2⟩, z⟩ := z
  obtain ⟨a2, dx2, vs2, ea, hi, _⟩ := S2.insOf (r.ext e2) ei2
  cases ea
  exact ⟨.inr ⟨dx2, vs2, hi⟩, F2, _, h2, S2, .cons (r.ext e2) rs, mo _ _ _ _ _ _ (fun _ _ z => LQ.ext (e1.trans e2) z) (fun _ _ z => LX.ext (e1.trans e2) z) z⟩
end
end DL
namespace DL
open PySem PySem.Spec L2 C8
section
variable {P : Program} {w : World} {K : PySem.W.Frag} {mg : Str → Option Value} {base : Heap} {k : Nat} {f : Addr} {fd : FuncData} {ps : List Str} {S : FSpec}
theorem FnG.ok (G : FnG false P w K mg base k f fd ps S) : FnOk P w K mg base (L2.CX P w) k f fd ps (fun vs H Q E => spD K S vs H Q E) :=
  ⟨fun vs H Q E h => spD_len G.len h, fun A outer s H args us vs Q E hr e0 hb hv hs => G.run hr (fun z => Bool.noConfusion z) e0 hb hv hs⟩
end
section
variable {X : Cx} {E : XK} {gz : Bool} {k j : Nat} {o value e fe : Expr} {es : List Expr} {wo wv we : WE} {wl : WA} {pos pos' apos p sp_ : Pos} {f x m : Str} {C fI g pa : Addr} {S : FSpec} {fd : FuncData} {ps : List Str}
def isI (C : Addr) (x : D) (h : AH) : Prop := ∃ fs, insOf h x = some (C, fs)
/-- e.f, a property of C -/
def wProp (C : Addr) (S : FSpec) (wo : WE) : WE := fun ρ h Q X => wo ρ h (fun x h1 => isI C x h1 ∧ S [x] h1 Q (fun _ _ => False)) X
theorem ae_prop (c : Cg gz X E k) (cc : Cls X.K C) (hp : PropOf X.K C f pa g) (G : FnG false X.prog X.w X.K X.mg X.base j g fd ps S) (hb : Binds X.K fd ps []) (hj : j + 1 ≤ k) (ho : AE X E o wo)
    (hab : attributeBase o f X.env (eval o X.env) = eval o X.env := by rfl) : AE X E (.Attribute o f pos) (wProp C S wo) := by
  have hx : Passes (L2.CX X.prog X.w) X.nox L2.E0 := passL
  refine ⟨PE.imp (pe_prop ho.run cc hp G.ok (c.room.mono hj) hb .nil hx hab) fun σ H Q ⟨F, ρ, h, S0, R, q⟩ => ?_, fun ρ h Q Q' X X' hq hx q => ho.mo _ _ _ _ _ _ (fun x h1 z => ⟨z.1, G.mo _ _ _ _ _ _ hq (fun _ _ z => z) z.2⟩) hx q⟩
  refine ⟨F, ρ, h, S0, R, ho.mo _ _ _ _ _ _ (fun x h1 z => ?_) (fun _ _ z => z) q⟩
  intro F1 H1 v e1 S1 r
  obtain ⟨⟨fs, ei⟩, z⟩ := z
  obtain ⟨a, dx, vs, rfl, ha, _⟩ := S1.insOf r ei
  exact ⟨a, dx, vs, rfl, ha, F1, _, h1, S1, .cons r .nil, G.mo _ _ _ _ _ _ (fun _ _ z => LQ.ext e1 z) (fun _ _ z => z.elim) z⟩
/-- o.m(e, ..) -/
def wMet (C : Addr) (m : Str) (S : FSpec) (wo : WE) (wl : WA) : WE := fun ρ h Q X => wo ρ h (fun x h1 => ∃ fs, insOf h1 x = some (C, fs) ∧ fs.lookup m = none ∧ wl ρ h1 (fun ds h2 => S (x :: ds) h2 Q X) X) X
theorem RepF.no {K : PySem.W.Frag} {F : Hp} {f : Str} : ∀ {fs : List (Str × D)} {vs : List (Str × V)}, RepF K F fs vs → fs.lookup f = none → vs.lookup f = none
  | _, _, .nil, _ => rfl
  | _, _, @RepF.cons _ _ k x v xs vs r t, e => by
    cases c : f == k with
    | true => simp only [List.lookup_cons, c] at e; cases e
    | false =>
      simp only [List.lookup_cons, c] at e ⊢
      exact RepF.no t e
theorem ae_met {pl : Sem Bool} (c : Cg gz X E k) (cc : Cls X.K C) (hm : Meth X.K C m g) (G : FnRD X.prog X.w X.K X.mg X.base j g S) (mo : MoF S) (hj : j ≤ k) (ho : AE X E o wo) (ha : AA X E (e :: es) wl)
    (hst : starEach (e :: es) X.env = (false, eval e X.env) :: starEach es X.env := by rfl) (hpl : (backTo pos (starEach es X.env)).any (·.1) = false := by rfl)
    (ht : eval (.Call (.Attribute o m apos) (e :: es) [] pos) X.env = (do let ov ← eval o X.env; standAt apos.atName; let (f, first) ← holding [ov] (getMethod ov m pl); callWith pos f first (backTo pos (starEach (e :: es) X.env)) (backToKw pos (keywordEach [] X.env))) := by rfl) : AE X E (.Call (.Attribute o m apos) (e :: es) [] pos) (wMet C m S wo wl) := by
  refine ⟨PE.imp (pe_methR ho.run cc hm (G.mono hj) c.room c.ps ha.run hst hpl ht) fun σ H Q ⟨F, ρ, h, S0, R, q⟩ => ?_, fun ρ h Q Q' X X' hq hx q => ho.mo _ _ _ _ _ _ (fun x h1 ⟨fs, e1, e2, z⟩ => ⟨fs, e1, e2, ha.mo _ _ _ _ _ _ (fun ds h2 z => mo _ _ _ _ _ _ hq hx z) hx z⟩) hx q⟩
  refine ⟨F, ρ, h, S0, R, ho.mo _ _ _ _ _ _ (fun x h1 z => ?_) (fun _ _ z => z) q⟩
  intro F1 H1 v e1 S1 r
  obtain ⟨fs, ei, el, z⟩ := z
  obtain ⟨a, dx, vs, rfl, hi, rs⟩ := S1.insOf r ei
  refine ⟨a, dx, vs, rfl, hi, rs.no el, F1, ρ, h1, S1, R.ext e1, ha.mo _ _ _ _ _ _ (fun ds h2 z => ?_) (fun _ _ z => LX.ext e1 z) z⟩
  intro F2 H2 us e2 S2 rs2
  exact ⟨F2, _, h2, S2, .cons (r.ext e2) rs2, mo _ _ _ _ _ _ (fun _ _ z => LQ.ext (e1.trans e2) z) (fun _ _ z => LX.ext (e1.trans e2) z) z⟩
end
end DL
namespace DL
open PySem PySem.Spec L2 C8
section
variable {X : Cx} {E : XK} {gz : Bool} {k j : Nat} {a b o e : Expr} {wa wb wo wi : WE} {pos apos : Pos} {m : Str} {C g : Addr} {S : FSpec} {op : Operator}
theorem pass_no : Passes (L2.CX X.prog X.w) X L2.E0 := fun _ _ _ _ _ _ _ h => by
  obtain ⟨_, _, _, _, _, _, _, _, _, _, _, _, h⟩ := h
  exact False.elim h
theorem ins_at {pins : List (Addr × Obj)} {σ : L2.St} {H : Hp} {s : Shared} {q dx : Addr} {fs : List (Str × V)} (I : Inv X pins σ H s) (h : H q = some (.ins C dx fs)) : ∃ ox od, PySem.W.InstAt s.heap q ox C od := by
  obtain ⟨mA, O, _⟩ := ins_get I.hok h
  obtain ⟨od, J, _⟩ := O.look
  exact ⟨_, _, J⟩
/-- x op y, both instances of C -/
def rOwn2 (C : Addr) (sp : Sp) : R2 := fun x y H Q => ∃ a dx fs b dy gs, x = .ref a ∧ y = .ref b ∧ H a = some (.ins C dx fs) ∧ H b = some (.ins C dy gs) ∧ sp [x, y] H Q L2.E0
theorem op_own2 (hc : PySem.W.selfFirst X.K C = true) (hs : PySem.W.findIn X.K (.ref C) (PySem.dunder op.info.2) = some (some (.ref g))) (hf : PySem.W.isFn X.K (.ref g) = true) (G : FnRD X.prog X.w X.K X.mg X.base j g S) (hr : Room j X.A) :
    OpR X (binaryOp op) (rOwn2 C fun vs H Q E => spD X.K S vs H Q E) := by
  intro pins s σ H x y v u Q I rx ry h
  obtain ⟨p, dx, fs, q, dy, gs, rfl, rfl, hp, hq, z⟩ := h
  cases (show v = Value.ref p from rx)
  cases (show u = Value.ref q from ry)
  obtain ⟨ox, od, J⟩ := ins_at I hp
  obtain ⟨oy, ody, J'⟩ := ins_at I hq
  obtain ⟨mm, hF⟩ := I.fr
  refine PySem.W.binop_K hF I.ok.mod.kin J J'.type hc hs hf (wpAny_mono (wpAny_call (run_fnR (us := [.ref p, .ref q]) (vs := [.ref p, .ref q]) G hr pass_no I (.cons rfl (.cons rfl .nil)) z)) (fun w s' z => ?_) fun _ _ x => x)
  obtain ⟨z', H', I', rz, qz⟩ := z
  exact SlX.cmpback rz ⟨z', H', I', rz, qz⟩
def dOwn2 (C : Addr) (S : FSpec) (x y : D) (h : AH) (Q : KD) : Prop := isI C x h ∧ isI C y h ∧ S [x, y] h Q (fun _ _ => False)
theorem dOwn2_ok {K : PySem.W.Frag} (mo : MoF S) : OpD K (rOwn2 C fun vs H Q E => spD K S vs H Q E) (dOwn2 C S) where
  to := by
    rintro F h H x y vx vy Q S0 rx ry ⟨⟨fs, ex⟩, ⟨gs, ey⟩, q⟩
    obtain ⟨p, dx, us, rfl, hp, _⟩ := S0.insOf rx ex
    obtain ⟨r, dy, ws, rfl, hq, _⟩ := S0.insOf ry ey
    exact ⟨p, dx, us, r, dy, ws, rfl, rfl, hp, hq, F, _, h, S0, .cons rx (.cons ry .nil), mo _ _ _ _ _ _ (fun _ _ z => z) (fun _ _ z => z.elim) q⟩
  mo := fun hq ⟨a, b, q⟩ => ⟨a, b, mo _ _ _ _ _ _ hq (fun _ _ z => z) q⟩
/-- x op i, x an instance of C, i an int -/
def rOwnI (C : Addr) (sp : Sp) : R2 := fun x y H Q => ∃ a dx fs i, x = .ref a ∧ y = .int i ∧ H a = some (.ins C dx fs) ∧ sp [x, y] H Q L2.E0
structure OwnI (K : PySem.W.Frag) (C g : Addr) (op : Operator) : Prop where
  sf : PySem.W.selfFirst K C = true
  at_ : PySem.W.findIn K (.ref C) (PySem.dunder op.info.2) = some (some (.ref g))
  fn : PySem.W.isFn K (.ref g) = true
  rr : ∃ rc, PySem.W.findIn K (.ref C) (PySem.dunderR op.info.2) = some rc ∧ (rc = none ∨ ∃ r : Addr, rc = some (.ref r))
  f1 : ∃ fo, PySem.W.findIn K (.type "int") (PySem.dunder op.info.2) = some fo
  f2 : ∃ ro, PySem.W.findIn K (.type "int") (PySem.dunderR op.info.2) = some ro
  sb : PySem.W.subIn K (.type "int") (.ref C) = some false
theorem op_ownI (o : OwnI X.K C g op) (G : FnRD X.prog X.w X.K X.mg X.base j g S) (hr : Room j X.A) : OpR X (binaryOp op) (rOwnI C fun vs H Q E => spD X.K S vs H Q E) := by
  intro pins s σ H x y v u Q I rx ry h
  obtain ⟨p, dx, fs, i, rfl, rfl, hp, z⟩ := h
  cases (show v = Value.ref p from rx)
  obtain ⟨t, rfl⟩ := ry
  obtain ⟨ox, od, J⟩ := ins_at I hp
  obtain ⟨mm, hF⟩ := I.fr
  obtain ⟨rc, hrc, hp2⟩ := o.rr
  obtain ⟨fo, h1⟩ := o.f1
  obtain ⟨ro, h2⟩ := o.f2
  refine PySem.W.ksp_binT (T := "int") hF I.ok.mod.kin J rfl o.sf o.at_ o.fn hrc hp2 h1 h2 o.sb (wpAny_mono (wpAny_call (run_fnR (us := [.ref p, .int i t]) (vs := [.ref p, .int i]) G hr pass_no I (.cons rfl (.cons ⟨t, rfl⟩ .nil)) z)) (fun w s' z => ?_) fun _ _ x => x)
  obtain ⟨z', H', I', rz, qz⟩ := z
  exact SlX.cmpback rz ⟨z', H', I', rz, qz⟩
def dOwnI (C : Addr) (S : FSpec) (x y : D) (h : AH) (Q : KD) : Prop := ∃ i, y = .int i ∧ isI C x h ∧ S [x, y] h Q (fun _ _ => False)
theorem dOwnI_ok {K : PySem.W.Frag} (mo : MoF S) : OpD K (rOwnI C fun vs H Q E => spD K S vs H Q E) (dOwnI C S) where
  to := by
    rintro F h H x y vx vy Q S0 rx ry ⟨i, rfl, ⟨fs, ex⟩, q⟩
    obtain ⟨p, dx, us, rfl, hp, _⟩ := S0.insOf rx ex
    cases ry
    exact ⟨p, dx, us, i, rfl, rfl, hp, F, _, h, S0, .cons rx (.cons (.int i) .nil), mo _ _ _ _ _ _ (fun _ _ z => z) (fun _ _ z => z.elim) q⟩
  mo := fun hq ⟨i, a, b, q⟩ => ⟨i, a, b, mo _ _ _ _ _ _ hq (fun _ _ z => z) q⟩
/-- x[i], x an instance of C whose def is at g -/
def rIxOwn (C : Addr) (sp : Sp) : R2 := fun x y H Q => ∃ a dx fs, x = .ref a ∧ H a = some (.ins C dx fs) ∧ sp [x, y] H Q L2.E0
theorem pe_ixOwn {ta tb : TE} (at_ : PySem.W.findIn X.K (.ref C) "__getitem__" = some (some (.ref g))) (fi : PySem.W.fnIn X.K g = true) (fn : PySem.W.isFn X.K (.ref g) = true) (G : FnRD X.prog X.w X.K X.mg X.base j g S) (hr : Room j X.A.in1)
    (ha : PE X a ta) (hb : PE X b tb) (hs : ∀ v u, subscripted b true v u = runValue (.builtin "lifetime.subscript" ⟨[v, u], []⟩)) : PE X (.Subscript a b pos) (tOp (rIxOwn C fun vs H Q E => spD X.K S vs H Q E) ta tb) := by
  refine ⟨fun pins s σ H Q I h => PyProof.Rows.Subscript_ (binT ha hb I h fun v u s2 x y H2 I2 rx ry q => ?_)⟩
  obtain ⟨p, dx, fs, rfl, hp, z⟩ := q
  cases (show v = Value.ref p from rx)
  obtain ⟨ox, od, J⟩ := ins_at I2 hp
  obtain ⟨mm, hF⟩ := I2.fr
  exact PySem.W.sub_K hF I2.ok.mod.kin J at_ fi fn (wpAny_call (SlX.run_at (us := [.ref p, u]) (ws := [.ref p, y]) G hr I2.env0.in1 pass_no I2 (.cons rfl (.cons ry .nil)) z)) (hs _ _)
def dIxOwn (C : Addr) (S : FSpec) (x y : D) (h : AH) (Q : KD) : Prop := isI C x h ∧ S [x, y] h Q (fun _ _ => False)
theorem dIxOwn_ok {K : PySem.W.Frag} (mo : MoF S) : OpD K (rIxOwn C fun vs H Q E => spD K S vs H Q E) (dIxOwn C S) where
  to := by
    rintro F h H x y vx vy Q S0 rx ry ⟨⟨fs, ex⟩, q⟩
    obtain ⟨p, dx, us, rfl, hp, _⟩ := S0.insOf rx ex
    exact ⟨p, dx, us, rfl, hp, F, _, h, S0, .cons rx (.cons ry .nil), mo _ _ _ _ _ _ (fun _ _ z => z) (fun _ _ z => z.elim) q⟩
  mo := fun hq ⟨a, q⟩ => ⟨a, mo _ _ _ _ _ _ hq (fun _ _ z => z) q⟩
theorem ae_ixOwn (c : Cg gz X E k) (at_ : PySem.W.findIn X.K (.ref C) "__getitem__" = some (some (.ref g))) (fi : PySem.W.fnIn X.K g = true) (fn : PySem.W.isFn X.K (.ref g) = true) (G : FnRD X.prog X.w X.K X.mg X.base j g S) (mo : MoF S) (hj : j + 1 ≤ k)
    (ha : AE X E a wa) (hb : AE X E b wb) (hs : ∀ v u, subscripted b true v u = runValue (.builtin "lifetime.subscript" ⟨[v, u], []⟩) := by intro _ _; rfl) : AE X E (.Subscript a b pos) (wOp (dIxOwn C S) wa wb) :=
  ⟨PE.imp (pe_ixOwn at_ fi fn G (Room.in1 (c.room.mono hj)) ha.run hb.run hs) fun σ H Q h => two (dIxOwn_ok mo) ha hb h, mo_op (dIxOwn_ok (K := X.K) mo).mo ha.mo hb.mo⟩
theorem ae_own2 (c : Cg gz X E k) (hc : PySem.W.selfFirst X.K C = true) (hs : PySem.W.findIn X.K (.ref C) (PySem.dunder op.info.2) = some (some (.ref g))) (hf : PySem.W.isFn X.K (.ref g) = true) (G : FnRD X.prog X.w X.K X.mg X.base j g S) (mo : MoF S) (hj : j ≤ k)
    (ha : AE X E a wa) (hb : AE X E b wb) : AE X E (.BinOp a op b pos) (wOp (dOwn2 C S) wa wb) := ae_bin (dOwn2_ok mo) (op_own2 hc hs hf (G.mono hj) c.room) ha hb
theorem ae_ownI (c : Cg gz X E k) (o : OwnI X.K C g op) (G : FnRD X.prog X.w X.K X.mg X.base j g S) (mo : MoF S) (hj : j ≤ k)
    (ha : AE X E a wa) (hb : AE X E b wb) : AE X E (.BinOp a op b pos) (wOp (dOwnI C S) wa wb) := ae_bin (dOwnI_ok mo) (op_ownI o (G.mono hj) c.room) ha hb
/-- -x, x an instance of C -/
theorem un_own (hs : PySem.W.findIn X.K (.ref C) "__neg__" = some (some (.ref g))) (hf : PySem.W.isFn X.K (.ref g) = true) (G : FnRD X.prog X.w X.K X.mg X.base j g S) (hr : Room j X.A) :
    UnR X (unaryOp .USub) (fun x H Q => ∃ a dx fs, x = .ref a ∧ H a = some (.ins C dx fs) ∧ spD X.K S [x] H Q L2.E0) := by
  intro pins s σ H x v Q I rx h
  obtain ⟨p, dx, fs, rfl, hp, z⟩ := h
  cases (show v = Value.ref p from rx)
  obtain ⟨ox, od, J⟩ := ins_at I hp
  obtain ⟨mm, hF⟩ := I.fr
  exact PySem.W.ksp_neg hF I.ok.mod.kin J hs hf (wpAny_call (run_fnR (us := [.ref p]) (vs := [.ref p]) G hr pass_no I (.cons rfl .nil) z))
def wNegO (C : Addr) (S : FSpec) (wa : WE) : WE := fun ρ h Q X => wa ρ h (fun x h1 => isI C x h1 ∧ S [x] h1 Q (fun _ _ => False)) X
theorem ae_negO (c : Cg gz X E k) (hs : PySem.W.findIn X.K (.ref C) "__neg__" = some (some (.ref g))) (hf : PySem.W.isFn X.K (.ref g) = true) (G : FnRD X.prog X.w X.K X.mg X.base j g S) (mo : MoF S) (hj : j ≤ k) (ha : AE X E a wa) : AE X E (.UnaryOp .USub a pos) (wNegO C S wa) := by
  refine ⟨PE.imp (pe_un (un_own hs hf (G.mono hj) c.room) ha.run) fun σ H Q ⟨F, ρ, h, S0, R, q⟩ => ?_, fun ρ h Q Q' X X' hq hx q => ha.mo _ _ _ _ _ _ (fun x h1 z => ⟨z.1, mo _ _ _ _ _ _ hq (fun _ _ z => z) z.2⟩) hx q⟩
  refine ⟨F, ρ, h, S0, R, ha.mo _ _ _ _ _ _ (fun x h1 z => ?_) (fun _ _ z => z) q⟩
  intro F1 H1 v e1 S1 r
  obtain ⟨⟨fs, ei⟩, z⟩ := z
  obtain ⟨p, dx, vs, rfl, hp, _⟩ := S1.insOf r ei
  exact ⟨p, dx, vs, rfl, hp, F1, _, h1, S1, .cons r .nil, mo _ _ _ _ _ _ (fun _ _ z => LQ.ext e1 z) (fun _ _ z => z.elim) z⟩
end
end DL
namespace DL
open PySem PySem.Spec L2 C8
section
variable {X : Cx} {E : XK} {gz : Bool} {k : Nat} {a b e o : Expr} {rest : List Expr} {wa wb wo : WE} {pos apos cpos p : Pos} {m : Str} {C g : Addr} {S : FSpec} {j : Nat}
/-- a or b, a of any truth -/
def wOrT (wa wb : WE) : WE := fun ρ h Q X => wa ρ h (fun x h1 => ∃ k, truD h1 x = some k ∧ if k = true then Q x h1 else wb ρ h1 Q X) X
theorem ae_orT (ha : AE X E a wa) (hb : AE X E (.BoolOp .Or (b :: rest) pos) wb) : AE X E (.BoolOp .Or (a :: b :: rest) pos) (wOrT wa wb) := by
  refine ⟨PE.imp (pe_orT ha.run hb.run) fun σ H Q ⟨F, ρ, h, S0, R, q⟩ => ?_, fun ρ h Q Q' X X' hq hx q => ha.mo _ _ _ _ _ _ (fun x h1 ⟨k, e1, z⟩ => ⟨k, e1, ?_⟩) hx q⟩
  · refine ⟨F, ρ, h, S0, R, ha.mo _ _ _ _ _ _ (fun x h1 z => ?_) (fun _ _ z => z) q⟩
    intro F1 H1 v e1 S1 r
    obtain ⟨k, ek, z⟩ := z
    refine ⟨k, S1.truD r ek, ?_⟩
    split at z
    · rename_i c; rw [if_pos c]; exact z F1 H1 v e1 S1 r
    · rename_i c; rw [if_neg c]; exact ⟨F1, ρ, h1, S1, R.ext e1, hb.mo _ _ _ _ _ _ (fun _ _ z => LQ.ext e1 z) (fun _ _ z => LX.ext e1 z) z⟩
  · split at z
    · rename_i c; rw [if_pos c]; exact hq _ _ z
    · rename_i c; rw [if_neg c]; exact hb.mo _ _ _ _ _ _ hq hx z
/-- o.m() -/
theorem ae_met0 {pl : Sem Bool} (c : Cg gz X E k) (cc : Cls X.K C) (hm : Meth X.K C m g) (G : FnRD X.prog X.w X.K X.mg X.base j g S) (mo : MoF S) (hj : j ≤ k) (ho : AE X E o wo)
    (ht : eval (.Call (.Attribute o m apos) [] [] pos) X.env = (do let ov ← eval o X.env; standAt apos.atName; let (f, first) ← holding [ov] (getMethod ov m pl); callWith pos f first (backTo pos (starEach [] X.env)) (backToKw pos (keywordEach [] X.env))) := by rfl) : AE X E (.Call (.Attribute o m apos) [] [] pos) (wMet C m S wo wNil) := by
  refine ⟨⟨fun pins s σ H Q I hq => ?_⟩, fun ρ h Q Q' X X' hq hx q => ho.mo _ _ _ _ _ _ (fun x h1 ⟨fs, e1, e2, z⟩ => ⟨fs, e1, e2, mo _ _ _ _ _ _ hq hx z⟩) hx q⟩
  obtain ⟨F, ρ, h, S0, R, q⟩ := hq
  refine PySem.W.methodCall_KW (pl := pl) (thn (ho.run.run pins s σ H (fun x H1 => ∃ a dx fs, x = .ref a ∧ H1 a = some (.ins C dx fs) ∧ fs.lookup m = none ∧ spD X.K S [x] H1 Q E) I
    ⟨F, ρ, h, S0, R, ho.mo _ _ _ _ _ _ (fun x h1 z F1 H1 v e1 S1 r => ?_) (fun _ _ z => z) q⟩) fun u s1 ⟨x, H1, I1, rx, q', dx, fs, ex, ea, l, z⟩ => ?_) ht
  · obtain ⟨fs, ei, el, z⟩ := z
    obtain ⟨q', dx, vs, rfl, hi, rs⟩ := S1.insOf r ei
    exact ⟨q', dx, vs, rfl, hi, rs.no el, F1, _, h1, S1, .cons r .nil, mo _ _ _ _ _ _ (fun _ _ z => LQ.ext e1 z) (fun _ _ z => LX.ext e1 z) z⟩
  · subst ex
    obtain rfl : u = Value.ref q' := rx
    refine getmeth_ok I1 ea cc hm l ?_
    exact PySem.W.callWith_K0 (first := [.ref q']) I1.kIn hm.kp (wpAny_call (run_fnR (us := [.ref q']) (vs := [.ref q']) (G.mono hj) c.room c.ps I1 (.cons rfl .nil) z))
end
end DL
namespace DL
open PySem PySem.Spec L2 C8
/-! ### dict comprehensions -/
def dcD (st : AH → Prop) (g : WG) (tt : WT) (tk tv : WE) (vs : List Nat) (ρ : EnvD) (p : Addr) : List D → AH → (AH → Prop) → Prop
  | [], h, Q => st h ∧ Q h
  | x :: r, h, Q => st h ∧ g x (wipeD ρ vs) h (fun ρ2 h2 => tt ρ2 h2 (fun b h3 => if b = true then tk ρ2 h3 (fun y h4 => tv ρ2 h4 (fun z h5 => ∃ kvs k, keyD y = some k ∧ h5 p = some (.dK kvs) ∧ kvs.length < sizeLine ∧ dcD st g tt tk tv vs ρ p r (up h5 p (.dK (putD kvs k z))) Q) (fun _ _ => False)) (fun _ _ => False)
      else dcD st g tt tk tv vs ρ p r h3 Q) (fun _ _ => False)) (fun _ _ => False)
def endK (m : Bool) (p : Addr) (Q : KD) : AH → Prop := fun h => ∃ kvs, h p = some (.dK kvs) ∧ if m = true then Q (.ref p) h else Q (.dK kvs) (rm h p)
def wDc (m : Bool) (wi : WI) (g : WG) (tt : WT) (tk tv : WE) (vs : List Nat) : WE := fun ρ h Q X => wi ρ h (fun xs st h1 => ∀ p, h1 p = none → dcD st g tt tk tv vs ρ p xs (up h1 p (.dK [])) (endK m p Q)) X
theorem dcD_mo {st : AH → Prop} {g : WG} {tt : WT} {tk tv : WE} {vs : List Nat} {ρ : EnvD} {p : Addr} (mg : MoG g) (mt : MoT tt) (mk : MoE tk) (mv : MoE tv) {Q Q' : AH → Prop} (hq : ∀ h, Q h → Q' h) : ∀ (xs : List D) (h : AH), dcD st g tt tk tv vs ρ p xs h Q → dcD st g tt tk tv vs ρ p xs h Q'
  | [], h, q => ⟨q.1, hq _ q.2⟩
  | x :: r, h, q => ⟨q.1, mg _ _ _ _ _ _ _ (fun ρ2 h2 z => mt _ _ _ _ _ _ (fun b h3 z => by
      split at z
      · rename_i c; rw [if_pos c]
        exact mk _ _ _ _ _ _ (fun y h4 z => mv _ _ _ _ _ _ (fun w h5 ⟨kvs, k, e1, e2, l, z⟩ => ⟨kvs, k, e1, e2, l, dcD_mo mg mt mk mv hq r _ z⟩) (fun _ _ z => z) z) (fun _ _ z => z) z
      · rename_i c; rw [if_neg c]; exact dcD_mo mg mt mk mv hq r _ z) (fun _ _ z => z) z) (fun _ _ z => z) q.2⟩
theorem endK_mo {m : Bool} {p : Addr} {Q Q' : KD} (hq : ∀ d h, Q d h → Q' d h) : ∀ h, endK m p Q h → endK m p Q' h := fun h ⟨acc, e, z⟩ => ⟨acc, e, by
  split at z
  · rename_i c; rw [if_pos c]; exact hq _ _ z
  · rename_i c; rw [if_neg c]; exact hq _ _ z⟩
theorem endK_to {K : PySem.W.Frag} {F : Hp} {h : AH} {H : Hp} {m : Bool} {p : Addr} {Q : VK} (S : Sim K F h H) (q : endK m p (LQ K F Q) h) : Q (.ref p) H := by
  obtain ⟨kvs, e, q⟩ := q
  split at q
  · exact q.at S (.ref p)
  · obtain ⟨f, u, hu, us, rfl, rs⟩ := S.ob _ _ e
    obtain ⟨e2, S2⟩ := S.frz e hu rm_same rm_sub
    exact q _ _ _ e2 S2 (.dK upd_same (rs.ext e2))
section
variable {X : Cx} {E : XK} {gz : Bool} {k : Nat} {kx vx tg iter : Expr} {ifs : List Expr} {scope : Scope} {own : List (Str × Nat)} {pos : Pos} {wi : WI} {g : WG} {gv : TG} {tt : WT} {tk tv : WE}
theorem wipe2 {σ : L2.St} (vs : List Nat) : L2.wipe (L2.wipe σ vs) vs = L2.wipe σ vs := by
  have key : ∀ (us vs : List Nat), (∀ u ∈ us, u ∈ vs) → L2.wipe (L2.wipe σ us) vs = L2.wipe σ vs := by
    intro us
    induction us with
    | nil => intro vs _; rfl
    | cons u us ih =>
      intro vs hu
      show L2.wipe ((L2.wipe σ us).set u none) vs = _
      rw [wipe_set (hu u (List.mem_cons_self ..)), ih vs fun w hw => hu w (List.mem_cons_of_mem _ hw)]
  exact key vs vs fun _ h => h
theorem to_dc {m : Bool} (mi : MoI wi) (mg : MoG g) (mt : MoT tt) (mk : MoE tk) (mv : MoE tv) (gw : GW X.K (own.map (·.2)) g gv) {σ : L2.St} {H : Hp} {Q : VK} (h : tE X.K E (wDc m wi g tt tk tv (own.map (·.2))) σ H Q) :
    tDc (tI X.K E wi) gv (tT X.K L2.E0 tt) (tE X.K L2.E0 tk) (tE X.K L2.E0 tv) (own.map (·.2)) σ H Q := by
  obtain ⟨F, ρ, h0, S, R, q⟩ := h
  refine ⟨F, ρ, h0, S, R, mi _ _ _ _ _ _ (fun xs st h1 z => ?_) (fun _ _ z => z) q⟩
  intro F1 H1 J e1 S1 it D hD
  obtain ⟨f1, g1⟩ := S1.free hD
  have z := z D g1
  refine ⟨fun i n H => n = xs.length - i ∧ i ≤ xs.length ∧ ∃ F2 h2, Ext F1 F2 ∧ Sim X.K F2 h2 H ∧ dcD st g tt tk tv (own.map (·.2)) ρ D (xs.drop i) h2 (endK m D (LQ X.K F2 Q)),
    ⟨xs.length, by simp, Nat.zero_le _, F1, _, .refl _, S1.newM hD (o := .dK []) ⟨[], rfl, .nil⟩, dcD_mo mg mt mk mv (endK_mo fun _ _ z => LQ.ext e1 z) _ _ (by simpa using z)⟩, ?_⟩
  rintro i n H2 ⟨rfl, hi, F2, h2, e2, S2, z2⟩
  by_cases lt : i < xs.length
  · rw [List.drop_eq_getElem_cons lt] at z2
    obtain ⟨hst, z2⟩ := z2
    refine .inr ⟨it.go e2 S2 hst lt, fun H' => ∃ F3 h3, Ext F1 F3 ∧ Sim X.K F3 h3 H' ∧ dcD st g tt tk tv (own.map (·.2)) ρ D (xs.drop (i + 1)) h3 (endK m D (LQ X.K F3 Q)), fun H' p => ⟨xs.length - (i + 1), by omega, rfl, lt, p⟩, fun x H' y => ?_⟩
    obtain ⟨F3, e3, S3, r3⟩ := it.yld e2 S2 hst y (List.getElem?_eq_getElem lt)
    have R3 := (R.ext (e1.trans (e2.trans e3))).wipe (own.map (·.2))
    refine gw.to S3 r3 R3 z2 fun ρ4 σ4 R4 z4 ew => ⟨by rw [ew, wipe2], F3, ρ4, h2, S3, R4, mt _ _ _ _ _ _ (fun b h5 z5 => ?_) (fun _ _ z => z.elim) z4⟩
    intro F5 H5 e5 S5
    split at z5
    · rename_i cb
      rw [if_pos cb]
      refine ⟨F5, ρ4, h5, S5, R4.ext e5, mk _ _ _ _ _ _ (fun y h6 z6 => ?_) (fun _ _ z => z.elim) z5⟩
      intro F6 H6 v6 e6 S6 r6
      refine ⟨F6, ρ4, h6, S6, (R4.ext e5).ext e6, mv _ _ _ _ _ _ (fun w h7 z7 => ?_) (fun _ _ z => z.elim) z6⟩
      intro F7 H7 v7 e7 S7 r7
      obtain ⟨kvs, kk, ek, ea, la, z7⟩ := z7
      obtain ⟨fa, u, hu, us, rfl, rs⟩ := S7.ob _ _ ea
      have eall := e3.trans (e5.trans (e6.trans e7))
      exact ⟨us, kk, keyD_to r6 ek, hu, by rw [← rs.length]; exact la, F7, _, e2.trans eall, S7.put ea (o := .dK (putD kvs kk w)) ⟨_, rfl, rs.put kk r7⟩, dcD_mo mg mt mk mv (endK_mo fun _ _ z => LQ.ext eall z) _ _ z7⟩
    · rename_i cb
      rw [if_neg cb]
      exact ⟨F5, _, e2.trans (e3.trans e5), S5, dcD_mo mg mt mk mv (endK_mo fun _ _ z => LQ.ext (e3.trans e5) z) _ _ z5⟩
  · have e : i = xs.length := by omega
    subst e
    rw [List.drop_length] at z2
    exact .inl ⟨it.stop e2 S2 z2.1 rfl, endK_to S2 z2.2⟩
theorem ae_dc (m : Bool) (c : Cg gz X E k) (hi : AI X E tg iter wi) (ok : BlkOk X.N X.env.scope scope own) (gw : GW X.K (own.map (·.2)) g gv)
    (hg : ∀ (s : Shared) (H : Hp) (C : Addr) (cl : List (Str × Addr)) (fp : List Addr), PG (Blk X scope s H C cl fp) tg gv)
    (ht : ∀ (s : Shared) (H : Hp) (C : Addr) (cl : List (Str × Addr)) (fp : List Addr), Cg gz (Blk X scope s H C cl fp) L2.E0 k → ATs (Blk X scope s H C cl fp) L2.E0 ifs tt)
    (hk : ∀ (s : Shared) (H : Hp) (C : Addr) (cl : List (Str × Addr)) (fp : List Addr), Cg gz (Blk X scope s H C cl fp) L2.E0 k → AE (Blk X scope s H C cl fp) L2.E0 kx tk)
    (he : ∀ (s : Shared) (H : Hp) (C : Addr) (cl : List (Str × Addr)) (fp : List Addr), Cg gz (Blk X scope s H C cl fp) L2.E0 k → AE (Blk X scope s H C cl fp) L2.E0 vx tv)
    (hs : ∀ x, foldedSetIterable iter X.env x = pure x := by intro _; rfl) : AE X E (.DictComp kx vx [⟨tg, iter, ifs, 0⟩] scope pos) (wDc m wi g tt tk tv (own.map (·.2))) := by
  have mg := gw.mo
  have mt := (ht X.s_0 X.H_0 0 [] [] (cg_blk c _ _ _ _ _)).mo
  have mk := (hk X.s_0 X.H_0 0 [] [] (cg_blk c _ _ _ _ _)).mo
  have mv := (he X.s_0 X.H_0 0 [] [] (cg_blk c _ _ _ _ _)).mo
  exact ⟨PE.imp (pe_dc (tt := tT X.K L2.E0 tt) (tk := tE X.K L2.E0 tk) (tv := tE X.K L2.E0 tv) c.calm c.nd hi.run ok hg (fun s H C cl fp => (ht s H C cl fp (cg_blk c s H C cl fp)).run) (fun s H C cl fp => (hk s H C cl fp (cg_blk c s H C cl fp)).run) (fun s H C cl fp => (he s H C cl fp (cg_blk c s H C cl fp)).run) hs) fun σ H Q h => to_dc hi.mo mg mt mk mv gw h,
    fun ρ h Q Q' X X' hq hx q => hi.mo _ _ _ _ _ _ (fun xs st h1 z p hp => dcD_mo mg mt mk mv (endK_mo hq) _ _ (z p hp)) hx q⟩
end
/-! ### x[::-1] of a list -/
theorem Reps.rev {K : PySem.W.Frag} {F : Hp} : ∀ {xs : List D} {vs : List V}, Reps K F xs vs → Reps K F xs.reverse vs.reverse
  | _, _, .nil => .nil
  | _, _, .cons r t => by rw [List.reverse_cons, List.reverse_cons]; exact (Reps.rev t).append (.cons r .nil)
def wRev (m : Bool) (wo : WE) : WE := fun ρ h Q X => wo ρ h (fun x h1 => ∃ xs, lstOf h1 x = some xs ∧ newL m xs.reverse h1 Q) X
theorem ae_rev (m : Bool) {X : Cx} {E : XK} {o : Expr} {wo : WE} {k : Nat} {p1 p2 p3 pos : Pos} (ho : AE X E o wo) : AE X E (.Subscript o (.Slice none none (some (.UnaryOp .USub (.Constant (.int 1) k p1) p2)) p3) pos) (wRev m wo) := by
  refine ⟨PE.imp (pe_revL ho.run) fun σ H Q ⟨F, ρ, h, S0, R, q⟩ => ?_, fun ρ h Q Q' X X' hq hx q => ho.mo _ _ _ _ _ _ (fun x h1 ⟨xs, e1, z⟩ => ⟨xs, e1, newL_mo hq z⟩) hx q⟩
  refine ⟨F, ρ, h, S0, R, ho.mo _ _ _ _ _ _ (fun x h1 z => ?_) (fun _ _ z => z) q⟩
  intro F1 H1 v e1 S1 r
  obtain ⟨xs, ex, z⟩ := z
  obtain ⟨a, vs, rfl, ha, rs⟩ := S1.lstOf r ex
  exact ⟨a, vs, rfl, .of ha, S1.newL rs.rev (newL_mo (fun _ _ z => LQ.ext e1 z) z)⟩
end DL
namespace DL
open PySem PySem.Spec L2 C8 PyProof.Rows
section
variable {prog : Program} {w : World} {A : Around} {E : Value → Shared → Prop} {s : Shared} {t : Addr} {its : List Value} {ns : List Int} {Q : Value → Shared → Prop}
theorem sum_tupR (hh : A.handled = none) (hl : s.heap.IsTuple t its.toArray) (hi : IntsAre its ns)
    (h : ∀ h' tk u, (∀ b o, s.heap.get? b = some o → h'.get? b = some o) → Q (.int ns.sum u) { s with heap := h', toks := tk }) : wpAny (model prog w) A (call (.builtin "sum") [.ref t]) Q E s := by
  obtain ⟨xs, e⟩ := hi.allInts.items
  have hn : numsOf (intItems xs).toList = ns := by rw [← e]; exact hi.numsOf
  rw [nums_intItems] at hn
  rw [e] at hl
  have lt : t < s.heap.objs.size := by obtain ⟨_, x, _⟩ := hl; exact Heap.lt_size x
  refine call_sum_walkG (wpAny_pyIter_tuple hl ?_)
  refine ⟨s.heap.objs.size, [s.heap.objs.size, t], [s.heap.objs.size], _, _, _, numAt xs, rfl, Walks.tuple (A := A.in1) hh _ t (Nat.ne_of_lt lt) (intItems xs), ⟨⟨_, Heap.get?_push_size _ rfl, rfl, rfl⟩, hl.push _⟩, fun b hb => ?_, (fun _ _ => intItems_at), fun h' tk u hk => ?_⟩
  · rw [Heap.size_push]
    rcases (by simpa using hb : b = s.heap.objs.size ∨ b = t) with z | z
    · rw [z]; exact Nat.lt_succ_self _
    · rw [z]; exact Nat.lt_succ_of_lt lt
  · have z := h h' tk u fun b o q => hk b o (by
      have : b ≠ s.heap.objs.size := Nat.ne_of_lt (Heap.lt_size q)
      simpa using this) (Heap.get?_push_of_some _ q)
    rw [← hn] at z
    rw [preSum_eq, List.take_of_length_le (by simp [intItems])]
    exact z
end
section
variable {X : Cx}
def rSumTD (K : PySem.W.Frag) : List V → Hp → VK → Prop := fun vs H Q => ∃ (a : Addr) (ns : List Int), vs = [V.ref a] ∧ SqT K H a (ns.map V.int) ∧ Q (.int ns.sum) H
theorem cr_sumT (hc : X.calm = true) : CallR X (.builtin "sum") (rSumTD X.K) := by
  intro pins s σ H vs us Q I r h
  obtain ⟨a, ns, rfl, hs, q⟩ := h
  obtain ⟨its, rv, hl, _⟩ := I.tuple hs
  rw [Vals.ref1 r]
  exact sum_tupR (I.ok.hd hc) hl rv.ints fun h' tk u hk => ⟨.int _, H, I.kept hk, ⟨_, rfl⟩, q⟩
def dSumT (ds : List D) (h : AH) (Q : KD) : Prop := ∃ ns : List Int, ds = [.tup (ns.map D.int)] ∧ Q (.int ns.sum) h
theorem dSumT_ok (hc : X.calm = true) : CaD X (.builtin "sum") dSumT where
  ex := by
    refine ⟨_, cr_sumT hc, ?_⟩
    rintro F h H ds vs Q S r ⟨ns, rfl, q⟩
    obtain ⟨v, rfl, rv⟩ := r.one
    cases rv with
    | @tup a _ us hs rs =>
      obtain rfl := rs.ints
      exact ⟨a, ns, rfl, sqt_of S.fz hs, q.at S (.int _)⟩
  mo := fun hq ⟨ns, e, q⟩ => ⟨ns, e, hq _ _ q⟩
end
end DL
namespace DL
open PySem PySem.Spec L2 C8 PyProof.Rows

section
variable {X : Cx}
/-- sorted(d), d with int keys, any number of them -/
theorem cr_sortedDK (hcalm : X.calm = true) : CallR X (.builtin "sorted") (fun xs H Q => ∃ (a : Addr) (kvs : List (Key × V)) (ks : List Int), xs = [.ref a] ∧ Rd H a (.dK kvs) ∧ kvs.map (·.1) = ks.map Sum.inl ∧
    ∀ (ys : List Int) (p : Addr), ys.Perm ks → ys.Pairwise (· ≤ ·) → H p = none → Q (.ref p) (upd H p (.lst (ys.map V.int)))) := by
  intro pins s σ H xs us Q I r q
  obtain ⟨a, kvs, ks, ex, hd, hks, q⟩ := q
  subst ex
  obtain ⟨u, eu, rx⟩ := vals1 r
  subst eu
  cases rx
  obtain ⟨z, lo, vs, rel, dd⟩ := dk_rd I.hok hd
  obtain ⟨ep, hat⟩ := dd.dictAt
  have hkeys : vs.map (·.1) = ks.map Sum.inl := rel.keys.symm.trans hks
  have hl : vs.length = ks.length := by
    have e := congrArg List.length hkeys
    rw [List.length_map, List.length_map] at e
    exact e
  have h16 : vs.length ≤ sizeLine := by rw [← Paired.length rel]; exact z
  refine Calls.call_function_entry PyProof.Rows.kind_sorted PyProof.Rows.plain_sorted PyProof.Rows.entry_sorted (PyProof.Rows.args_sorted1 _) ?_
  unfold Builtin.«sorted»
  refine wpAny_bind (m := checkCount "sorted" 1 1 _) (wpAny_pure ?_)
  refine wpAny_bind (PySem.W.kdu_collect (A := X.A.in1) (PySem.W.kdl_dict (knd := mixKind X.prog X.w) (kvs := vs) (ep := ep) lo) (I.ok.hd hcalm) hat h16 fun h' tk acc hk hacc => ?_)
  have hal : acc.toList.length = ks.length := by rw [Array.length_toList, hacc.1, hl]
  have hS : IntsAre acc.toList ks := ints_each hal fun j v e => by
    obtain ⟨k, x, e1, e2⟩ := hacc.2 j v (by rw [← Array.getElem?_toList]; exact e)
    have e3 : (vs.map (·.1))[j]? = some k := by rw [List.getElem?_map, e1]; rfl
    rw [hkeys, List.getElem?_map] at e3
    cases e4 : ks[j]? with
    | none => rw [e4] at e3; cases e3
    | some y =>
      rw [e4] at e3
      have e5 : Sum.inl y = k := Option.some.inj e3
      subst e5
      rcases keyIs_shape (show keyIs (Sum.inl y) v = true from e2) with ⟨i, t, ek, ev⟩ | ⟨z, t, ek, ev⟩
      · cases ek
        exact ⟨y, t, rfl, ev⟩
      · cases ek
  have I1 : Inv X pins σ H { s with heap := h', toks := tk } := I.kept hk
  have hz : acc.toList.length ≤ sizeLine := by rw [hal, ← hl]; exact h16
  refine wpAny_bind (wpAny_newList ?_ hz)
  have hoL : (h'.push (seqObj "list" acc.toList.toArray 0)).get? h'.objs.size = some (seqObj "list" acc.toList.toArray 0) := Heap.get?_push_size _ rfl
  show wpAny _ _ _ _ _ { s with heap := h'.push (seqObj "list" acc.toList.toArray 0), toks := tk }
  refine wpAny_bind (wpAny_holding (wpAny_call_entry PyProof.Rows.slot_list_sort ⟨_, hoL, rfl⟩ PyProof.Rows.entry_list_sort
    (SrtO.list_sort_ord (s := { s with heap := h'.push (seqObj "list" acc.toList.toArray 0), toks := tk }) SrtO.swo_int hoL hz (fun h2 => SrtO.ints_sortable hS h2) fun out g1 g2 => ⟨_, rfl, ?_⟩) (PyProof.Rows.args_list_sort _)))
  obtain ⟨k1, k2, k3⟩ := SrtO.ints_out hS g1 g2
  obtain ⟨e', he'⟩ := PyProof.Rows.sortedHeap_at (vs := acc.toList) (out := out.toArray) hoL
  have hlen : ((out.map SrtO.iv).map V.int).length ≤ sizeLine := by
    rw [List.length_map, k2.length_eq, ← hal]; exact hz
  refine wpAny_pure ⟨_, rfl, .ref h'.objs.size, upd H h'.objs.size (.lst ((out.map SrtO.iv).map V.int)), I1.laid (t' := tk) (fun b u e => ?_) (Nat.le_refl _)
    (show ObjOk X.prog X.w _ _ _ (.lst ((out.map SrtO.iv).map V.int)) from ⟨hlen, out, e', vals_of_ints k1, he'⟩), rfl, q _ _ k2 k3 (I1.hok.fresh (Nat.le_refl _))⟩
  have hb : b < h'.objs.size := Heap.lt_size e
  rw [PyProof.Rows.sortedHeap_old (Nat.ne_of_lt hb) (by rw [size_push']; exact Nat.lt_succ_of_lt hb)]
  exact Heap.get?_push_of_some _ e
end
/-- a key as data -/
def kD : Key → D
  | .inl i => .int i
  | .inr s => .str s
section
variable {K : PySem.W.Frag} {F : Hp} {h : AH} {H : Hp}
theorem kD_rep {F : Hp} (k : Key) : Rep K F (kD k) (kV k) := by
  cases k with
  | inl i => exact .int i
  | inr s => exact .str s
theorem kD_reps {F : Hp} : ∀ (kvs : List (Key × D)) (vs : List (Key × V)), RepK K F kvs vs → Reps K F (kvs.map fun kv => kD kv.1) (vs.map fun kv => kV kv.1)
  | _, _, .nil => .nil
  | _, _, .cons _ t => .cons (kD_rep _) (kD_reps _ _ t)
end
section
variable {X : Cx}
def dSortD (m : Bool) (ds : List D) (h : AH) (Q : KD) : Prop := ∃ (x : D) (kvs : List (Key × D)) (ks : List Int), ds = [x] ∧ dkOf h x = some kvs ∧ kvs.map (·.1) = ks.map Sum.inl ∧ ∀ ys : List Int, ys.Perm ks → ys.Pairwise (· ≤ ·) → newL m (ys.map D.int) h Q
theorem reps_intsD {K : PySem.W.Frag} {F : Hp} : ∀ ns : List Int, Reps K F (ns.map D.int) (ns.map V.int)
  | [] => .nil
  | n :: ns => .cons (.int n) (reps_intsD ns)
theorem dSortD_ok {m : Bool} (hc : X.calm = true) : CaD X (.builtin "sorted") (dSortD m) where
  ex := ⟨_, cr_sortedDK hc, fun {F h H ds vs Q} S r q => by
    obtain ⟨x, kvs, ks, rfl, e, hk, q⟩ := q
    obtain ⟨v, rfl, r1⟩ := r.one
    obtain ⟨a, us, rfl, ha, rs⟩ := S.dkOf r1 e
    exact ⟨a, us, ks, rfl, .of ha, by rw [← rs.keys]; exact hk, fun ys p h1 h2 h3 => S.newL (reps_intsD ys) (q ys h1 h2) p h3⟩⟩
  mo := fun {ds h Q Q'} hq ⟨x, kvs, ks, e, e2, e3, q⟩ => ⟨x, kvs, ks, e, e2, e3, fun ys h1 h2 => newL_mo hq (q ys h1 h2)⟩
/-- sorted of a list of ints -/
def dSortI (m : Bool) (ds : List D) (h : AH) (Q : KD) : Prop := ∃ (x : D) (ks : List Int), ds = [x] ∧ lstOf h x = some (ks.map D.int) ∧ ∀ ys : List Int, ys.Perm ks → ys.Pairwise (· ≤ ·) → newL m (ys.map D.int) h Q
theorem dSortI_ok {m : Bool} : CaD X (.builtin "sorted") (dSortI m) where
  ex := ⟨_, cr_sortedI, fun {F h H ds vs Q} S r q => by
    obtain ⟨x, ks, rfl, e, q⟩ := q
    obtain ⟨v, rfl, r1⟩ := r.one
    obtain ⟨a, us, rfl, ha, rs⟩ := S.lstOf r1 e
    rw [rs.ints] at ha
    exact ⟨a, ks, rfl, .of ha, fun ys p h1 h2 h3 => S.newL (reps_intsD ys) (q ys h1 h2) p h3⟩⟩
  mo := fun {ds h Q Q'} hq ⟨x, ks, e, e2, q⟩ => ⟨x, ks, e, e2, fun ys h1 h2 => newL_mo hq (q ys h1 h2)⟩
/-- list(d): its keys -/
def dListD (m : Bool) (ds : List D) (h : AH) (Q : KD) : Prop := ∃ (x : D) (kvs : List (Key × D)), ds = [x] ∧ dkOf h x = some kvs ∧ newL m (kvs.map fun kv => kD kv.1) h Q
theorem dListD_ok {m : Bool} (hc : X.calm = true) : CaD X (.type "list") (dListD m) where
  ex := ⟨_, call_list_dK hc, fun {F h H ds vs Q} S r q => by
    obtain ⟨x, kvs, rfl, e, q⟩ := q
    obtain ⟨v, rfl, r1⟩ := r.one
    obtain ⟨a, us, rfl, ha, rs⟩ := S.dkOf r1 e
    exact ⟨a, us, rfl, ha, S.newL (kD_reps _ _ rs) q⟩⟩
  mo := fun {ds h Q Q'} hq ⟨x, kvs, e, e2, q⟩ => ⟨x, kvs, e, e2, newL_mo hq q⟩
end
end DL
namespace DL
open PySem PySem.Spec L2 C8 PyProof.Rows
/-! ### dict(t), t a tuple of pairs -/
theorem tuple_keys_none : typeLookup (.type "tuple") "keys" = pure none := am_miss_of_fast (by first | decide +kernel | rfl)
section
variable {prog : Program} {w : World} {A : Around} {E : Value → Shared → Prop}
theorem miss_tuple {s : Shared} {a : Addr} {o : Obj} {xs : Array Value} {k : Nat} {Q : Option Value → Shared → Prop} (hx : s.heap.get? a = some o) (hc : o.cls = .type "tuple") (hdat : o.data = .seq xs k) (hd : o.dict = none) (hA : A.handled = none)
    (h : ∀ h' tk, (∀ b ob, s.heap.get? b = some ob → h'.get? b = some ob) → Q none { s with heap := h', toks := tk }) : wpAny (model prog w) A (getAttr? (.ref a) "keys") Q E s := by
  obtain ⟨c, dct, dat, sl⟩ := o
  simp only at hc hdat hd
  subst hc hdat hd
  obtain ⟨hp, g, d, tk, os⟩ := s
  have hT : ∀ tk', (⟨hp, g, d, tk', os⟩ : Shared).TypeIs (.ref a) "tuple" := fun _ => ⟨_, hx, rfl⟩
  have hmiss := tuple_keys_none
  have hname : (["__module__", "__name__", "__qualname__", "__doc__", "__annotations__"] : List Str).contains "keys" = false := by decide +kernel
  have hsz : ("keys" : Str).length + 100 ≤ sizeLine := by first | size_fits | decide +kernel
  have f1 := sub_AttributeError
  have f3 := PySem.F.slot_tuple_getattribute.lookup
  have f4 := PySem.F.slot_tuple_getattribute.bind (.ref a)
  have f5 := am_tuple_getattr_none
  unfold getAttr? getAttrBy? getAttrBy
  repeat (any_goals (first | assumption | exact hT _ | ((with_reducible show wpAny _ _ (call (Value.builtin "tuple.__getattribute__") _ _) _ _ _); refine call_meets PySem.F.slot_tuple_getattribute (hT _) am_entry_tuple_getattribute (PySem.F.args_tuple_getattribute_2 _ _) (meets_getattribute_miss_tuple a xs k sl "keys" _ hmiss hname hsz) ⟨hx, hA, fun h' tk' e hx' => ?_⟩) | wp_step))
  obtain ⟨t', u', he⟩ := hx'.there
  show wpAny _ _ (getattributeRaised _ _ _ _ _ _ _) _ _ _
  unfold getattributeRaised
  repeat (any_goals (first | assumption | wp_step))
  all_goals first | exact h _ _ hx'.keeps | (dsimp only; repeat (any_goals (first | assumption | exact h _ _ hx'.keeps | wp_step)))

/-- the walk over the pairs -/
theorem upd_loopT {R : Result → Shared → Prop} {S I l : Addr} {items : Array Value} {res : Value} (hh : A.handled = none) (hlI : l ≠ I) (hSI : S ≠ I) (hSl : S ≠ l) :
    ∀ (rest : List (Key × Value)) (i : Nat) (acc : List (Key × Value)) (ix : Int) (t : Tok) (s : Shared), items.size = i + rest.length → acc.length + rest.length ≤ sizeLine →
      (∀ (j : Nat) (q : Key × Value), rest[j]? = some q → ∃ (b : Addr) (u : Value), items[i + j]? = some (.ref b) ∧ b ≠ S ∧ b ≠ I ∧ IsTup s.heap b #[u, q.2] ∧ keyIs q.1 u = true) →
      s.heap.IsTupleIter I l i → s.heap.IsTuple l items → s.heap.DictOf (mixKind prog w) S acc →
      (∀ h' tk, h'.DictOf (mixKind prog w) S (merged acc rest) → (∀ b o, b ≠ S → b ≠ I → s.heap.get? b = some o → h'.get? b = some o) → R (.ok (.ret res)) { s with heap := h', toks := tk }) →
      codeAny (model prog w) A (.builtin "dict.update.loop" ⟨[.ref S, .ref I, .int ix t, res], []⟩) R s
  | [], i, acc, ix, t, s, hsz, hln, ht, hit, hl, hm, hR => by
    refine codeAny_builtin ud_entry ?_
    rw [Around.under_plainId ud_plain _]
    show wpAny _ A.in1 (pyNext (.ref I) >>= _) _ _ s
    refine wpAny_bind (wpAny_pyNext_tuple_end (A := A.in1) hh hit hl (by first | exact Array.getElem?_eq_none (Nat.le_of_eq hsz) | (simp at hsz; simp; omega)) fun h' he => ?_)
    show wpAny _ A.in1 (Builtin.Dict.addKeywords S [] >>= _) _ _ _
    refine wpAny_bind (wpAny_pure (wpAny_pure ?_))
    exact hR h' s.toks (hm.extBut he hSI) fun b o _ hb e => he b o hb e
  | q :: rest, i, acc, ix, t, s, hsz, hln, ht, hit, hl, hm, hR => by
    obtain ⟨b, u, hb, hbS, hbI, htup, hk⟩ := ht 0 q rfl
    rw [List.length_cons] at hsz hln
    refine codeAny_builtin ud_entry ?_
    rw [Around.under_plainId ud_plain _]
    show wpAny _ A.in1 (pyNext (.ref I) >>= _) _ _ s
    refine wpAny_bind (wpAny_pyNext_tuple_item (x := .ref b) hit hl (by simpa using hb) fun h1 hit1 hs1 => ?_)
    have ht1 : IsTup h1 b #[u, q.2] := htup.extBut hs1.extBut hbI
    have hl1 : h1.IsTuple l items := hl.extBut hs1.extBut hlI
    have hm1 : h1.DictOf (mixKind prog w) S acc := hm.extBut hs1.extBut hSI
    obtain ⟨o, ho, hc, n, hd⟩ := id ht1
    show wpAny _ A.in1 (holding [Value.ref b] _ >>= _) _ _ _
    refine wpAny_bind (wpAny_holding ?_)
    refine wpAny_bind (wpAny_tryCatch ?_)
    unfold Builtin.Dict.pairItems
    refine wpAny_bind (wpAny_typeOf (T := "tuple") ⟨o, ho, hc⟩ ?_)
    rw [if_pos (by first | decide | rfl | simp)]
    refine wpAny_bind (wpAny_seqItems ho hd (wpAny_pure ?_))
    show wpAny _ A.in1 (holding [u, q.2] (dictSet S u q.2)) _ _ _
    refine wpAny_holding (wpAny_dictSet_pairs (knd := mixKind prog w) (k := q.1) hk hm1 (fun h2 hm2 hs2 => ?_) (by omega))
    refine wpAny_pure ⟨plainId_quiet ud_plain _, upd_loopT (items := items) hh hlI hSI hSl rest (i + 1) (stored acc q.1 q.2) (ix + 1) 0 _ (show items.size = i + 1 + rest.length by omega) ?_ (fun j q' e => ?_) ?_ ?_ hm2 fun h' tk hd' k => ?_⟩
    · have z := stored_length_le acc q.1 q.2
      omega
    · obtain ⟨b', u', hb', hbS', hbI', htup', hk'⟩ := ht (j + 1) q' (by simpa using e)
      refine ⟨b', u', ?_, hbS', hbI', (htup'.extBut hs1.extBut hbI').extBut hs2.extBut hbS', hk'⟩
      rw [show i + 1 + j = i + (j + 1) by omega]
      exact hb'
    · exact (Heap.IsTupleIter.extBut hit1 hs2.extBut (Ne.symm hSI))
    · exact hl1.extBut hs2.extBut (Ne.symm hSl)
    · exact hR h' tk hd' fun c oc h3 h4 e => k c oc h3 h4 (hs2.extBut c oc h3 (hs1.extBut c oc h4 e))

theorem call_dict_pairsT {s : Shared} {l : Addr} {ol : Obj} {items : Array Value} {n : Nat} {prs : List (Key × Value)} {Q : Value → Shared → Prop} (hh : A.handled = none) (hl : s.heap.get? l = some ol) (hc : ol.cls = .type "tuple") (hd : ol.dict = none)
    (hdat : ol.data = .seq items n) (hsz : items.size = prs.length) (hln : prs.length ≤ sizeLine)
    (ht : ∀ (j : Nat) (q : Key × Value), prs[j]? = some q → ∃ (b : Addr) (u : Value), items[j]? = some (.ref b) ∧ IsTup s.heap b #[u, q.2] ∧ keyIs q.1 u = true)
    (h : ∀ h' tk, h'.DictOf (mixKind prog w) s.heap.objs.size (merged [] prs) → (∀ b o, s.heap.get? b = some o → h'.get? b = some o) → Q (.ref s.heap.objs.size) { s with heap := h', toks := tk }) :
    wpAny (model prog w) A (call (.type "dict") [.ref l]) Q E s := by
  refine callType_codes (Q₁ := fun obj s₁ => obj = .ref s.heap.objs.size ∧ s₁ = { s with heap := s.heap.push { cls := .type "dict", data := .dict #[] } }) PySem.F.kt_called_dict (PySem.F.kt_typeCall_dict_1 _) PySem.F.entry_dict_init (kt_code_dict_new _ ⟨rfl, rfl⟩) ?_
  rintro obj s₁ ⟨rfl, rfl⟩
  have hnew : (s.heap.push { cls := .type "dict", data := .dict #[] }).DictOf (mixKind prog w) s.heap.objs.size [] := Heap.DictOf.new s.heap
  have k0 : ∀ b o, s.heap.get? b = some o → (s.heap.push { cls := .type "dict", data := .dict #[] }).get? b = some o := fun b o e => Heap.get?_push_of_some _ e
  refine ⟨hnew.typeIs, PySem.F.args_dict_init_2 _ _, ?_⟩
  unfold Builtin.«dict.__init__»
  refine wpAny_bind ?_
  unfold Builtin.Dict.selfAndRest
  refine wpAny_bind (wpAny_notOrdered_dict hnew.typeIs ?_)
  show wpAny _ _ (pure (s.heap.objs.size, [Value.ref l])) _ _ _
  refine wpAny_pure ?_
  show wpAny _ _ (Builtin.Dict.updateFrom "dict.__init__" s.heap.objs.size (.ref l) [] .none) _ _ _
  unfold Builtin.Dict.updateFrom
  refine wpAny_bind (wpAny_typeOf (T := "tuple") ⟨ol, k0 _ _ hl, hc⟩ ?_)
  rw [if_pos (by first | decide | rfl | simp)]
  refine wpAny_bind (miss_tuple (k0 _ _ hl) hc hdat hd hh fun h1 tk1 hk1 => ?_)
  rw [if_pos (show (none : Option Value).isNone = true from rfl)]
  refine wpAny_bind (wpAny_rule ?_)
  have hl1 : h1.IsTuple l items := ⟨ol, hk1 _ _ (k0 _ _ hl), hc, n, hdat⟩
  have hS1 : s.heap.objs.size < h1.objs.size := by
    have e : (s.heap.push { cls := .type "dict", data := .dict #[] }).get? s.heap.objs.size = some { cls := .type "dict", data := .dict #[] } := Heap.get?_push_size _ rfl
    exact Heap.lt_size (hk1 _ _ e)
  refine wpAny_bind (wpAny_pyIter_tuple hl1 ?_)
  have k2 : ∀ b o, h1.get? b = some o → (h1.push { cls := .type "tuple_iterator", data := .fields #[.ref l, .int 0 0] }).get? b = some o := fun b o e => Heap.get?_push_of_some _ e
  have hlt : l < s.heap.objs.size := Heap.lt_size hl
  have key := upd_loopT (prog := prog) (w := w) (A := A.in1) (R := wants (fun r s₂ => r = .none ∧ Q (.ref s.heap.objs.size) s₂) E) (S := s.heap.objs.size) (I := h1.objs.size) (l := l) (items := items) (res := Value.none) hh
    (Nat.ne_of_lt (Nat.lt_trans hlt hS1)) (Nat.ne_of_lt hS1) (Nat.ne_of_gt hlt) prs 0 [] 0 0
    { s with heap := h1.push { cls := .type "tuple_iterator", data := .fields #[.ref l, .int 0 0] }, toks := tk1 } (by rw [hsz, Nat.zero_add]) (by rw [List.length_nil, Nat.zero_add]; exact hln)
    (fun j q e => by
      obtain ⟨b, u, e1, e2, e3⟩ := ht j q e
      have hb : b < s.heap.objs.size := e2.lt
      exact ⟨b, u, by rw [Nat.zero_add]; exact e1, Nat.ne_of_lt hb, Nat.ne_of_lt (Nat.lt_trans hb hS1), e2.keeps fun c o z => k2 _ _ (hk1 _ _ (k0 _ _ z)), e3⟩)
    ⟨_, Heap.get?_push_size _ rfl, rfl, rfl⟩ (hl1.push _) ((hnew.at fun o e => hk1 _ _ e).at fun o e => k2 _ _ e)
    (fun h' tk hd' k => ⟨rfl, h h' tk hd' fun b o e => k b o (Nat.ne_of_lt (Heap.lt_size e)) (Nat.ne_of_lt (Nat.lt_trans (Heap.lt_size e) hS1)) (k2 _ _ (hk1 _ _ (k0 _ _ e)))⟩)
  first
    | exact wpAny_pure ⟨plainId_quiet ud_plain _, key⟩
    | exact wpAny_bind (wpAny_pure (wpAny_pure ⟨plainId_quiet ud_plain _, key⟩))
end
end DL
namespace DL
open PySem PySem.Spec L2 C8 PyProof.Rows
section
variable {X : Cx}
def rDictP : List V → Hp → VK → Prop := fun xs H Q => ∃ (a : Addr) (ob : Obj) (ps : List Addr) (kvs : List (Key × V)), xs = [.ref a] ∧ H a = some (.frz ob (.tup (ps.map V.ref))) ∧ ob.dict = none ∧ Paired (fun p kv => SqT X.K H p [kV kv.1, kv.2]) ps kvs ∧
    ∀ p, H p = none → Q (.ref p) (upd H p (.dK (mergeK [] kvs)))
theorem cr_dictP (hcalm : X.calm = true) : CallR X (.type "dict") (rDictP (X := X)) := by
  intro pins s σ H xs us Q I r q
  obtain ⟨a, ob, ps, kvs, ex, hq, hd, hp, q⟩ := q
  subst ex
  obtain ⟨u, eu, rx⟩ := vals1 r
  subst eu
  cases rx
  obtain ⟨hob, hz, its, rv, ot, hot, hc, n, hdat⟩ := (show ObjOk X.prog X.w H s.heap a (.frz ob (.tup (ps.map V.ref))) from I.hok a _ hq)
  rw [hob] at hot
  cases hot
  have ei := refs_at rv
  subst ei
  rw [List.length_map] at hz
  obtain ⟨prs, rel, hl, hpr⟩ := pairs_of I hp
  refine call_dict_pairsT (prs := prs) (I.ok.hd hcalm) hob hc hd hdat (by simp [hl]) (by rw [hl]; exact hz) (fun j q' e => ?_) fun h' tk hd' k => ?_
  · obtain ⟨b, u, e1, e2, e3⟩ := hpr j q' e
    exact ⟨b, u, by simp [e1], e2, e3⟩
  · have hm : (s.heap.objs.size == sysModules) = false := beq_eq_false_iff_ne.mpr (Nat.ne_of_gt I.big)
    have hlen : (mergeK [] kvs).length ≤ sizeLine := by
      refine Nat.le_trans (length_mergeK kvs []) ?_
      rw [List.length_nil, Nat.zero_add, rel.length, hl]
      exact hz
    exact ⟨.ref s.heap.objs.size, upd H s.heap.objs.size (.dK (mergeK [] kvs)), I.laid (t' := tk) k (Nat.le_refl _) (show ObjOk X.prog X.w _ _ _ (.dK (mergeK [] kvs)) from ⟨hlen, hm, merged [] prs, KV.merge rel .nil, hd'⟩), rfl, q _ (I.hok.fresh (Nat.le_refl _))⟩
/-- tuple(l), l a list: a tuple whose object is known -/
theorem cr_tupP : CallR X (.type "tuple") (fun xs H Q => ∃ (p : Addr) (ys : List V), xs = [.ref p] ∧ SqL X.K H p ys ∧ ∀ q ob, H q = none → ob.dict = none → Q (.ref q) (upd H q (.frz ob (.tup ys)))) := by
  intro pins s σ H xs us Q I r q
  obtain ⟨p, ys, rfl, hs, q⟩ := q
  rw [Vals.ref1 r]
  obtain ⟨its, rv, pl, hz⟩ := I.list hs
  refine call_tuple_list pl.isList (fun h' hk => ?_) (by rw [List.size_toArray, ← rv.length]; exact hz)
  have I1 : Inv X pins σ H { s with heap := h' } := I.kept (t' := s.toks) hk
  have I2 : Inv X pins σ (upd H h'.objs.size (.frz { cls := .type "tuple", data := .seq its.toArray } (.tup ys))) { s with heap := h'.push { cls := .type "tuple", data := .seq its.toArray } } :=
    I1.laid (t' := s.toks) (fun b o e => Heap.get?_push_of_some _ e) (Nat.le_refl _) (show ObjOk X.prog X.w _ _ _ (.frz _ (.tup ys)) from ⟨Heap.get?_push_size _ rfl, hz, its, rv, IsTup.new _ _⟩)
  exact ⟨.ref h'.objs.size, _, I2, rfl, q _ _ (I1.hok.fresh (Nat.le_refl _)) rfl⟩
def dTupP (ds : List D) (h : AH) (Q : KD) : Prop := ∃ x xs, ds = [x] ∧ lstOf h x = some xs ∧ Q (.tpl xs) h
theorem dTupP_ok : CaD X (.type "tuple") dTupP where
  ex := ⟨_, cr_tupP, fun {F h H ds vs Q} S r q => by
    obtain ⟨x, xs, rfl, e, q⟩ := q
    obtain ⟨v, rfl, r1⟩ := r.one
    obtain ⟨a, us, rfl, ha, rs⟩ := S.lstOf r1 e
    refine ⟨a, us, rfl, .of ha, fun p ob hp hd => ?_⟩
    obtain ⟨f, g⟩ := S.free hp
    exact q _ _ _ (ext_upd f) (S.newF hp _) (.tpl upd_same hd (rs.ext (ext_upd f)))⟩
  mo := fun {ds h Q Q'} hq ⟨x, xs, e, e2, q⟩ => ⟨x, xs, e, e2, hq _ _ q⟩
/-- the dict of pairs, later ones win -/
def mergeD (es : List (Key × D)) : List (Key × D) := es.foldl (fun acc e => putD acc e.1 e.2) []
theorem repk_merge {K : PySem.W.Frag} {F : Hp} : ∀ {es : List (Key × D)} {vs : List (Key × V)} {acc : List (Key × D)} {av : List (Key × V)}, RepK K F acc av → RepK K F es vs → RepK K F (es.foldl (fun acc e => putD acc e.1 e.2) acc) (mergeK av vs)
  | _, _, _, _, r, .nil => r
  | _, _, acc, av, r, .cons h t => by
    show RepK K F (List.foldl _ (putD acc _ _) _) (mergeK (putK av _ _) _)
    exact repk_merge (r.put _ h) t
def pairKD (e : Key × D) : D := .tup [kD e.1, e.2]
def dDictP (m : Bool) (ds : List D) (h : AH) (Q : KD) : Prop := ∃ es : List (Key × D), ds = [.tpl (es.map pairKD)] ∧ if m = true then ∀ p, h p = none → Q (.ref p) (up h p (.dK (mergeD es))) else Q (.dK (mergeD es)) h
theorem pairs_rep {K : PySem.W.Frag} {F : Hp} : ∀ (es : List (Key × D)) (us : List V), Reps K F (es.map pairKD) us → ∃ (ps : List Addr) (kvs : List (Key × V)), us = ps.map V.ref ∧ RepK K F es kvs ∧ Paired (fun p kv => SqT K F p [kV kv.1, kv.2]) ps kvs
  | [], _, .nil => ⟨[], [], rfl, .nil, .nil⟩
  | e :: es, _, .cons h t => by
    obtain ⟨ps, kvs, rfl, r, p⟩ := pairs_rep es _ t
    cases h with
    | @tup a _ vs hs rs =>
      cases rs with
      | cons r1 r2 =>
        cases r2 with
        | cons r2 r3 =>
          cases r3
          have ev : ∀ {k : Key} {v : V}, Rep K F (kD k) v → v = kV k := fun {k v} r => by cases k <;> (cases r; rfl)
          rw [ev r1] at hs
          exact ⟨a :: ps, (e.1, _) :: kvs, rfl, .cons r2 r, .cons hs p⟩
theorem Paired.imp {α β : Type} {F G : α → β → Prop} (h : ∀ a b, F a b → G a b) : ∀ {xs : List α} {ys : List β}, Paired F xs ys → Paired G xs ys
  | _, _, .nil => .nil
  | _, _, .cons p t => .cons (h _ _ p) (Paired.imp h t)
theorem dDictP_ok {m : Bool} (hc : X.calm = true) : CaD X (.type "dict") (dDictP m) where
  ex := ⟨_, cr_dictP hc, fun {F h H ds vs Q} S r q => by
    obtain ⟨es, rfl, q⟩ := q
    obtain ⟨v, rfl, r1⟩ := r.one
    cases r1 with
    | @tpl a ob xs us hf hd rs =>
      obtain ⟨ps, kvs, rfl, rk, pr⟩ := pairs_rep es _ rs
      refine ⟨a, ob, ps, kvs, rfl, S.fz _ _ hf, hd, Paired.imp (fun _ _ z => sqt_of S.fz z) pr, fun p hp => ?_⟩
      obtain ⟨f, g⟩ := S.free hp
      have rm := repk_merge (acc := []) .nil rk
      cases m with
      | true =>
        rw [if_pos rfl] at q
        exact q p g F _ _ (.refl F) (S.newM hp ⟨_, rfl, rm⟩) (.ref p)
      | false =>
        rw [if_neg (by decide)] at q
        exact q _ _ _ (ext_upd f) (S.newF hp _) (.dK upd_same (rm.ext (ext_upd f)))⟩
  mo := fun {ds h Q Q'} hq ⟨es, e, q⟩ => ⟨es, e, by
    split at q
    · rename_i c; rw [if_pos c]; exact fun p hp => hq _ _ (q p hp)
    · rename_i c; rw [if_neg c]; exact hq _ _ q⟩
end
end DL
namespace DL
open PySem PySem.Spec L2 C8
/-! ### a dict written out; an empty one that does not change -/
section
variable {X : Cx} {E : XK} {pos : Pos}
def wDnewF : WE := fun _ h Q _ => Q (.dK []) h
theorem ae_dnewF : AE X E (.Dict [] [] pos) wDnewF := by
  refine ⟨PE.imp pe_dnewK fun σ H Q ⟨F, ρ, h, S, R, q⟩ => ?_, fun ρ h Q Q' X X' hq _ q => hq _ _ q⟩
  intro p hp
  obtain ⟨f, g⟩ := S.free hp
  exact q _ _ _ (ext_upd f) (S.newF hp (.dK [])) (.dK upd_same .nil)
def wPairs : List (WE × WE) → EnvD → AH → (List (D × D) → AH → Prop) → KX → Prop
  | [], _, h, Q, _ => Q [] h
  | p :: r, ρ, h, Q, X => p.1 ρ h (fun x h1 => p.2 ρ h1 (fun y h2 => wPairs r ρ h2 (fun ps h3 => Q ((x, y) :: ps) h3) X) X) X
def wDisp (ps : List (WE × WE)) : WE := fun ρ h Q X => ∀ p, h p = none → wPairs ps ρ (up h p (.dK [])) (fun ps h2 => h2 p = some (.dK []) ∧ ∃ kvs : List (Key × D), ps = kvs.map (fun kv => (kD kv.1, kv.2)) ∧ kvs.length ≤ 15 ∧ Q (.ref p) (up h2 p (.dK (mergeD kvs)))) X
inductive RepPs (K : PySem.W.Frag) (F : Hp) : List (D × D) → List (V × V) → Prop where
  | nil : RepPs K F [] []
  | cons {x y : D} {v u : V} {ps : List (D × D)} {qs : List (V × V)} (h1 : Rep K F x v) (h2 : Rep K F y u) (t : RepPs K F ps qs) : RepPs K F ((x, y) :: ps) ((v, u) :: qs)
def MoP (ps : List (WE × WE)) : Prop := ∀ ρ h Q Q' X X', (∀ d h, Q d h → Q' d h) → (∀ x h, X x h → X' x h) → wPairs ps ρ h Q X → wPairs ps ρ h Q' X'
structure APs (X : Cx) (E : XK) (pos : Pos) (keys : List (Option Expr)) (values : List Expr) (ps : List (WE × WE)) : Prop where
  run : PPs X pos keys values (ps.map fun p => (tE X.K E p.1, tE X.K E p.2))
  mo : ∀ p ∈ ps, MoE p.1 ∧ MoE p.2
theorem aps_nil : APs X E pos [] [] [] := ⟨pps_nil, fun _ h => by cases h⟩
theorem aps_cons {k v : Expr} {ks : List (Option Expr)} {vs : List Expr} {wk wv : WE} {ps : List (WE × WE)} (hk : AE X E k wk) (hv : AE X E v wv) (hr : APs X E pos ks vs ps) : APs X E pos (some k :: ks) (v :: vs) ((wk, wv) :: ps) :=
  ⟨pps_cons hk.run hv.run hr.run, fun p h => by
    rcases List.mem_cons.mp h with rfl | h
    · exact ⟨hk.mo, hv.mo⟩
    · exact hr.mo p h⟩
theorem pairs_mo : ∀ {ps : List (WE × WE)}, (∀ p ∈ ps, MoE p.1 ∧ MoE p.2) → MoP ps
  | [], _, _, _, _, _, _, _, hq, _, q => hq _ _ q
  | p :: r, h, ρ, h0, Q, Q', X, X', hq, hx, q => by
    have hp := h p (List.mem_cons_self ..)
    exact hp.1 _ _ _ _ _ _ (fun x h1 q => hp.2 _ _ _ _ _ _ (fun y h2 q => pairs_mo (fun z hz => h z (List.mem_cons_of_mem _ hz)) _ _ _ _ _ _ (fun _ _ z => hq _ _ z) hx q) hx q) hx q
theorem pairs_to : ∀ {ps : List (WE × WE)}, (∀ p ∈ ps, MoE p.1 ∧ MoE p.2) → ∀ {F : Hp} {ρ : EnvD} {h : AH} {σ : L2.St} {H : Hp} {Q : List (D × D) → AH → Prop} {Qv : List (V × V) → Hp → Prop}, Sim X.K F h H → EnvR X.K F ρ σ → wPairs ps ρ h Q (LX X.K F E) →
    (∀ F' h' H' ds vs, Ext F F' → Sim X.K F' h' H' → RepPs X.K F' ds vs → Q ds h' → Qv vs H') → tPairs (ps.map fun p => (tE X.K E p.1, tE X.K E p.2)) σ H Qv
  | [], _, F, ρ, h, σ, H, Q, Qv, S, R, q, k => k _ _ _ _ _ (.refl F) S .nil q
  | p :: r, hm, F, ρ, h, σ, H, Q, Qv, S, R, q, k => by
    have hp := hm p (List.mem_cons_self ..)
    have hr : ∀ z ∈ r, MoE z.1 ∧ MoE z.2 := fun z hz => hm z (List.mem_cons_of_mem _ hz)
    refine ⟨F, ρ, h, S, R, hp.1 _ _ _ _ _ _ (fun x h1 z => ?_) (fun _ _ z => z) q⟩
    intro F1 H1 v e1 S1 r1
    refine ⟨F1, ρ, h1, S1, R.ext e1, hp.2 _ _ _ _ _ _ (fun y h2 z => ?_) (fun _ _ z => LX.ext e1 z) z⟩
    intro F2 H2 u e2 S2 r2
    refine pairs_to hr S2 (R.ext (e1.trans e2)) (pairs_mo hr _ _ _ _ _ _ (fun _ _ z => z) (fun _ _ z => LX.ext (e1.trans e2) z) z) fun F3 h3 H3 ds vs e3 S3 rs q3 => ?_
    exact k F3 h3 H3 _ _ ((e1.trans e2).trans e3) S3 (.cons (r1.ext (e2.trans e3)) (r2.ext e3) rs) q3
theorem repps_keys {K : PySem.W.Frag} {F : Hp} : ∀ {kvs : List (Key × D)} {qs : List (V × V)}, RepPs K F (kvs.map fun kv => (kD kv.1, kv.2)) qs → ∃ vs : List (Key × V), qs = vs.map (fun kv => (kV kv.1, kv.2)) ∧ RepK K F kvs vs
  | [], _, r => by cases r; exact ⟨[], rfl, .nil⟩
  | (k, d) :: kvs, _, r => by
    cases r with
    | @cons x y v u ps qs h1 h2 t =>
      obtain ⟨vs, e, rk⟩ := repps_keys t
      refine ⟨(k, u) :: vs, ?_, .cons h2 rk⟩
      cases k with
      | inl i => cases h1; rw [List.map_cons, e]; rfl
      | inr s => cases h1; rw [List.map_cons, e]; rfl
theorem RepK.len {K : PySem.W.Frag} {F : Hp} {kvs : List (Key × D)} {vs : List (Key × V)} (r : RepK K F kvs vs) : kvs.length = vs.length := by
  induction kvs generalizing vs with
  | nil => cases r; rfl
  | cons x xs ih => cases r with | cons h t => rw [List.length_cons, List.length_cons, ih t]
theorem ae_disp {keys : List (Option Expr)} {values : List Expr} {ps : List (WE × WE)} (h : APs X E pos keys values ps) (hall : keys.all (·.isSome) = true := by rfl) (hl : keys.length = values.length := by rfl) (h0 : keys ≠ [] := by simp)
    (h15 : keys.length ≤ 15 := by decide) : AE X E (.Dict keys values pos) (wDisp ps) := by
  refine ⟨PE.imp (pe_disp h.run hall hl h0 h15) fun σ H Q ⟨F, ρ, g, S, R, q⟩ => ?_, fun ρ g Q Q' X X' hq hx q p hp => pairs_mo h.mo _ _ _ _ _ _ (fun ds h2 ⟨e, kvs, e1, l, z⟩ => ⟨e, kvs, e1, l, hq _ _ z⟩) hx (q p hp)⟩
  intro p hp
  obtain ⟨f, gg⟩ := S.free hp
  refine pairs_to h.mo (S.newM hp (o := .dK []) ⟨[], rfl, .nil⟩) R (q p gg) fun F' h' H' ds vs e S' rs ⟨e1, kvs, ed, lk, z⟩ => ?_
  subst ed
  obtain ⟨ws, ew, rk⟩ := repps_keys rs
  subst ew
  obtain ⟨_, u, hu, us, rfl, ru⟩ := S'.ob _ _ e1
  cases ru
  refine ⟨hu, ws, rfl, by rw [← RepK.len rk]; exact lk, z _ _ _ e (S'.put e1 (o := .dK (mergeD kvs)) ⟨_, rfl, repk_merge .nil rk⟩) (.ref p)⟩
end
end DL
namespace DL
open PySem PySem.Spec L2 C8
/-! ### repr of data within which empty dicts may stand -/
mutual
def pq : D → PyData
  | .non => .none
  | .bl b => .bool b
  | .int i => .int i
  | .str s => .str s
  | .tup xs => .tuple (pqs xs)
  | .tpl xs => .tuple (pqs xs)
  | .lst xs => .list (pqs xs)
  | .ref _ => .none
  | .ty _ => .none
  | .lk _ => .none
  | .ob _ _ => .none
  | .dK _ => .dict []
  | .dT _ => .none
def pqs : List D → List PyData
  | [] => []
  | x :: xs => pq x :: pqs xs
end
mutual
def dq : D → Bool
  | .non => true
  | .bl _ => true
  | .int _ => true
  | .str _ => true
  | .tup xs => dqs xs
  | .tpl xs => dqs xs
  | .lst xs => dqs xs
  | .ref _ => false
  | .ty _ => false
  | .lk _ => false
  | .ob _ _ => false
  | .dK kvs => kvs.isEmpty
  | .dT _ => false
def dqs : List D → Bool
  | [] => true
  | x :: xs => dq x && dqs xs
end
mutual
inductive Dq (K : PySem.W.Frag) (H : Hp) : V → PyData → Prop
  | non : Dq K H .non .none
  | bl (b : Bool) : Dq K H (.bl b) (.bool b)
  | int (i : Int) : Dq K H (.int i) (.int i)
  | str (x : Str) : Dq K H (.str x) (.str x)
  | lst {a : Addr} {xs : List V} {ds : List PyData} : H a = some (.lst xs) → DqAll K H xs ds → Dq K H (.ref a) (.list ds)
  | tup {a : Addr} {xs : List V} {ds : List PyData} : SqT K H a xs → DqAll K H xs ds → Dq K H (.ref a) (.tuple ds)
  | dic {a : Addr} : H a = some (.dK []) → Dq K H (.ref a) (.dict [])
inductive DqAll (K : PySem.W.Frag) (H : Hp) : List V → List PyData → Prop
  | nil : DqAll K H [] []
  | cons {v : V} {vs : List V} {d : PyData} {ds : List PyData} : Dq K H v d → DqAll K H vs ds → DqAll K H (v :: vs) (d :: ds)
end
section
variable {K : PySem.W.Frag} {F H : Hp}
mutual
theorem Rep.dq (e : ∀ a o, F a = some o → H a = some o) : ∀ {d : D} {v : V}, Rep K F d v → DL.dq d = true → Dq K H v (pq d)
  | _, _, .non, _ => by rw [pq]; exact .non
  | _, _, .bl b, _ => by rw [pq]; exact .bl b
  | _, _, .int i, _ => by rw [pq]; exact .int i
  | _, _, .str s, _ => by rw [pq]; exact .str s
  | _, _, .ref _, q => by rw [DL.dq] at q; cases q
  | _, _, .ty _, q => by rw [DL.dq] at q; cases q
  | _, _, .lk _ _, q => by rw [DL.dq] at q; cases q
  | _, _, .ob _ _, q => by rw [DL.dq] at q; cases q
  | _, _, .dT _ _, q => by rw [DL.dq] at q; cases q
  | _, _, .tup h r, q => by rw [DL.dq] at q; rw [pq]; exact .tup (sqt_of e h) (Reps.dq e r q)
  | _, _, .tpl h hd r, q => by rw [DL.dq] at q; rw [pq]; exact .tup (sqt_of e (.inl (.inr ⟨_, h⟩))) (Reps.dq e r q)
  | _, _, .lst h r, q => by rw [DL.dq] at q; rw [pq]; exact .lst (e _ _ h) (Reps.dq e r q)
  | .dK [], _, .dK h .nil, q => by rw [pq]; exact .dic (e _ _ h)
  | .dK (_ :: _), _, .dK h r, q => by rw [DL.dq] at q; cases q
theorem Reps.dq (e : ∀ a o, F a = some o → H a = some o) : ∀ {ds : List D} {vs : List V}, Reps K F ds vs → dqs ds = true → DqAll K H vs (pqs ds)
  | _, _, .nil, _ => by rw [pqs]; exact .nil
  | _, _, .cons r t, q => by
    rw [dqs, Bool.and_eq_true] at q
    rw [pqs]
    exact .cons (Rep.dq e r q.1) (Reps.dq e t q.2)
end
end
section
variable {X : Cx} {pins : List (Addr × Obj)} {σ : L2.St} {H : Hp} {s : Shared}
theorem dic_at (I : Inv X pins σ H s) {a : Addr} (h1 : H a = some (.dK [])) : (a == sysModules) = false ∧ ∃ o ep, s.heap.get? a = some o ∧ o.cls = .type "dict" ∧ o.data = .dict #[] ep := by
  obtain ⟨_, hm, vs, kv, ⟨o, es, ep, ho, hx, hd, _, hp, _⟩⟩ := dk_of I.hok h1
  cases kv
  have le := Pairs.length hp
  have ee : es.toList = [] := List.length_eq_zero_iff.mp (by rw [le]; rfl)
  obtain ⟨l⟩ := es
  have ee : l = [] := ee
  subst ee
  exact ⟨hm, o, ep, ho, hx.1, hd⟩
mutual
theorem Dq.rk (I : Inv X pins σ H s) : ∀ (d : PyData) (v : V) (u : Value), Dq X.K H v d → RelV v u → d.showable = true → d.shown.length ≤ sizeLine →
    ∃ as bs, Reads s.heap u d as ∧ ReadAtMost s.heap d.depth bs ∧ ReprK X.prog X.w bs s.heap d.depth u d.shown
  | .none, _, _, h, r, _, _ => by
    cases h
    cases r
    exact ⟨_, [], Reads.none, (fun _ h => nomatch h), by simp only [PyData.shown]; exact .of_is ReprIs.none _ _ _⟩
  | .bool b, _, _, h, r, _, _ => by
    cases h
    cases r
    exact ⟨_, [], Reads.bool b, (fun _ h => nomatch h), by simp only [PyData.shown]; exact .of_is (ReprIs.bool b) _ _ _⟩
  | .int i, _, _, h, r, hs, _ => by
    cases h
    obtain ⟨t, rfl⟩ := r
    exact ⟨_, [], Reads.int i t, (fun _ h => nomatch h), by simp only [PyData.shown]; exact .of_is (ReprIs.int t (by simpa [PyData.showable] using hs)) _ _ _⟩
  | .str x, _, _, h, r, _, hz => by
    cases h
    obtain ⟨t, rfl⟩ := r
    exact ⟨_, [], Reads.str x t, (fun _ h => nomatch h), by simp only [PyData.shown]; exact .of_is (ReprIs.str x t (by simpa only [PyData.shown] using hz)) _ _ _⟩
  | .list ds, _, _, h, r, hs, hz => by
    cases h with
    | @lst a xs _ h1 ha =>
      cases r
      obtain ⟨its, rv, ⟨o, n, ho, hc, _, hd⟩, _⟩ := I.list (.of h1)
      have hz' : (listText (PyData.shownAll ds)).length ≤ sizeLine := by simpa only [PyData.shown] using hz
      obtain ⟨as, bs, hr, hb, hk⟩ := Dq.rkAll I ds _ its ha rv (by simpa [PyData.showable] using hs) (fun t ht => Nat.le_trans (listText_mem_le ht) hz')
      have r : Reads s.heap (.ref a) (.list ds) _ := .list ho hc hd hr
      have hna : a ∉ bs := not_mem_of_deeper r (by simp only [PyData.depth]; omega) hb
      refine ⟨_, a :: bs, r, ReadAtMost.cons r (by simp only [PyData.depth]; omega) hb, ?_⟩
      simp only [PyData.depth, PyData.shown]
      cases its with
      | nil =>
        cases hr
        simp only [PyData.shownAll, listText_nil]
        exact ReprK.listEmpty ho hc hd
      | cons x l => exact ReprK.list ho hc hd hna (by simpa using hk.length_eq) (fun i y e => hk.item i y (by simpa using e))
  | .tuple ds, _, _, h, r, hs, hz => by
    cases h with
    | @tup a xs _ h1 ha =>
      cases r
      obtain ⟨its, rv, ⟨o, ho, hc, n, hd⟩, _⟩ := I.tuple h1
      have hz' : (tupleText (PyData.shownAll ds)).length ≤ sizeLine := by simpa only [PyData.shown] using hz
      obtain ⟨as, bs, hr, hb, hk⟩ := Dq.rkAll I ds _ its ha rv (by simpa [PyData.showable] using hs) (fun t ht => Nat.le_trans (tupleText_mem_le ht) hz')
      have r : Reads s.heap (.ref a) (.tuple ds) _ := .tuple ho hc hd hr
      have hna : a ∉ bs := not_mem_of_deeper r (by simp only [PyData.depth]; omega) hb
      refine ⟨_, a :: bs, r, ReadAtMost.cons r (by simp only [PyData.depth]; omega) hb, ?_⟩
      simp only [PyData.depth, PyData.shown]
      exact ReprK.tuple ho hc hd hna hk
  | .dict _, _, _, h, r, _, _ => by
    cases h with
    | @dic a h1 =>
      cases r
      obtain ⟨hm, o, ep, ho, hc, hd⟩ := dic_at I h1
      have r : Reads s.heap (.ref a) (.dict []) _ := .dict (as := []) (bs := []) (kvs := []) ho hc hd .nil .nil
      refine ⟨_, [a], r, ReadAtMost.cons r (Nat.le_refl _) (fun _ h => nomatch h), ?_⟩
      exact ReprK.dict (as := []) ho hc hd hm (fun h => nomatch h) .nil
theorem Dq.rkAll (I : Inv X pins σ H s) : ∀ (ds : List PyData) (vs : List V) (us : List Value), DqAll X.K H vs ds → Vals vs us → PyData.showableAll ds = true → (∀ t ∈ PyData.shownAll ds, t.length ≤ sizeLine) →
    ∃ as bs, ReadsAll s.heap us ds as ∧ ReadAtMost s.heap (PyData.depthAll ds) bs ∧ ReprAllK X.prog X.w bs s.heap (PyData.depthAll ds) us (PyData.shownAll ds)
  | [], _, _, h, r, _, _ => by
    cases h
    cases r
    exact ⟨_, [], ReadsAll.nil, (fun _ h => nomatch h), by simp only [PyData.shownAll]; exact .nil⟩
  | d :: ds, _, _, h, r, hs, hz => by
    cases h with
    | cons h1 h2 =>
      cases r with
      | cons r1 r2 =>
        have hs' : d.showable = true ∧ PyData.showableAll ds = true := by simpa [PyData.showableAll] using hs
        obtain ⟨as, b1, q1, hb1, k1⟩ := Dq.rk I d _ _ h1 r1 hs'.1 (hz _ (by simp only [PyData.shownAll]; exact List.mem_cons_self ..))
        obtain ⟨cs, b2, q2, hb2, k2⟩ := Dq.rkAll I ds _ _ h2 r2 hs'.2 (fun t ht => hz t (by simp only [PyData.shownAll]; exact List.mem_cons_of_mem _ ht))
        refine ⟨_, b1 ++ b2, ReadsAll.cons q1 q2, ?_, ?_⟩
        · intro b hm
          simp only [PyData.depthAll]
          rcases List.mem_append.mp hm with hm | hm
          · obtain ⟨d', as', r', hd'⟩ := hb1 b hm
            exact ⟨d', as', r', Nat.le_trans hd' (Nat.le_max_left _ _)⟩
          · obtain ⟨d', as', r', hd'⟩ := hb2 b hm
            exact ⟨d', as', r', Nat.le_trans hd' (Nat.le_max_right _ _)⟩
        · simp only [PyData.depthAll, PyData.shownAll]
          exact .cons ((k1.more fun b hb => List.mem_append_left _ hb).level_le (Nat.le_max_left _ _)) (k2.more_le (fun b hb => List.mem_append_right _ hb) (Nat.le_max_right _ _))
end
theorem Dq.shows (I : Inv X pins σ H s) {d : PyData} {a : Addr} (h : Dq X.K H (.ref a) d) (hs : d.showable = true) (hsz : d.shown.length ≤ sizeLine) : ∃ T idr, ShowsBy X.prog X.w s.heap a d T idr := by
  cases h with
  | @lst _ xs ds h1 ha =>
    obtain ⟨its, rv, ⟨o, n, ho, hc, _, hd⟩, _⟩ := I.list (.of h1)
    have hz' : (listText (PyData.shownAll ds)).length ≤ sizeLine := by simpa only [PyData.shown] using hsz
    obtain ⟨as, bs, hr, hb, hk⟩ := Dq.rkAll I ds _ its ha rv (by simpa [PyData.showable] using hs) (fun t ht => Nat.le_trans (listText_mem_le ht) hz')
    have hna : a ∉ bs := not_mem_of_deeper (.list ho hc hd hr) (by simp only [PyData.depth]; omega) hb
    refine ⟨"list", "list.__repr__", F.slot_list_repr.toG, F.slot_list_str, F.slot_list_format, fun s' hk0 => ⟨o, hk0 _ _ ho, hc⟩, fun A E s' Q hg hu hk0 hQ => ?_⟩
    simp only [PyData.depth] at hu
    simp only [PyData.shown] at hQ
    cases its with
    | nil =>
      cases hr
      simp only [PyData.shownAll, listText_nil] at hQ
      exact call_list_repr_empty ⟨o, hk0 _ _ ho, hc⟩ (hk0 _ _ ho) hd (hQ s'.heap _ _ fun _ _ e => e)
    | cons x l => exact call_list_reprK ho hc hd hna (by simpa using hk.length_eq) (fun i y e => hk.item i y (by simpa using e)) hg (fun b _ => Clear.nil b) hu hk0 hQ hz'
  | @tup _ xs ds h1 ha =>
    obtain ⟨its, rv, ⟨o, ho, hc, n, hd⟩, _⟩ := I.tuple h1
    have hz' : (tupleText (PyData.shownAll ds)).length ≤ sizeLine := by simpa only [PyData.shown] using hsz
    obtain ⟨as, bs, hr, hb, hk⟩ := Dq.rkAll I ds _ its ha rv (by simpa [PyData.showable] using hs) (fun t ht => Nat.le_trans (tupleText_mem_le ht) hz')
    have hna : a ∉ bs := not_mem_of_deeper (.tuple ho hc hd hr) (by simp only [PyData.depth]; omega) hb
    refine ⟨"tuple", "tuple.__repr__", F.slot_tuple_repr, F.slot_tuple_str, F.slot_tuple_format, fun s' hk0 => ⟨o, hk0 _ _ ho, hc⟩, fun A E s' Q hg hu hk0 hQ => ?_⟩
    simp only [PyData.depth] at hu
    simp only [PyData.shown] at hQ
    exact call_tuple_reprK ho hc hd hna hk hg (fun b _ => Clear.nil b) hu hk0 hQ hz'
  | dic h1 =>
    obtain ⟨hm, o, ep, ho, hc, hd⟩ := dic_at I h1
    refine ⟨"dict", "dict.__repr__", F.slot_dict_repr, F.slot_dict_str, F.slot_dict_format, fun s' hk0 => ⟨o, hk0 _ _ ho, hc⟩, fun A E s' Q hg hu hk0 hQ => ?_⟩
    simp only [PyData.depth] at hu
    simp only [PyData.shown] at hQ
    exact call_dict_reprK (as := []) ho hc hd hm (fun h => nomatch h) .nil hg (fun b _ => Clear.nil b) hu hk0 hQ hsz
theorem call_reprQ (hg : X.A.guards = some []) (hu : X.A.units + 64 < cLine) : CallR X (.builtin "repr") (fun vs H Q => ∃ x d, vs = [x] ∧ Dq X.K H x d ∧ d.showable = true ∧ d.depth ≤ 60 ∧ d.shown.length ≤ sizeLine ∧ Q (.str d.shown) H) := by
  intro pins s σ H xs us Q I r h
  obtain ⟨x, d, rfl, hd, hs, dp, hz, q⟩ := h
  obtain ⟨u, rfl, rx⟩ : ∃ u, us = [u] ∧ RelV x u := by cases r with | cons r t => cases t; exact ⟨_, rfl, r⟩
  have refs : ∀ {a : Addr}, Dq X.K H (.ref a) d → wpAny (model X.prog X.w) X.A (call (.builtin "repr") [.ref a]) (EP X pins σ Q) X.xe s := fun {a} hd => by
    obtain ⟨T, idr, S⟩ := Dq.shows I hd hs hz
    exact call_repr_slot (by omega) (S.typeIs s fun _ _ z => z) S.slotRepr (S.call X.A.in1 X.xe s _ hg (by show X.A.units + 1 + d.depth < cLine; omega) (fun _ _ z => z) fun h' u tk hk => ⟨_, _, rfl, ⟨.str _, H, I.kept hk, ⟨_, rfl⟩, q⟩⟩)
  cases hd with
  | non => cases rx; exact PySem.P.repr_of_none ⟨.str _, H, I.tok _, ⟨_, rfl⟩, by rw [PyData.shown] at q; exact q⟩
  | bl b => cases rx; exact PySem.P.repr_of_bool ⟨.str _, H, I.tok _, ⟨_, rfl⟩, by rw [PyData.shown] at q; exact q⟩
  | int i =>
    obtain ⟨t, rfl⟩ := rx
    refine PySem.P.repr_of_int (by rw [PyData.showable] at hs; exact of_decide_eq_true hs) ⟨.str _, H, I.tok _, ⟨_, rfl⟩, by rw [PyData.shown] at q; exact q⟩
  | str x =>
    obtain ⟨t, rfl⟩ := rx
    exact PySem.P.repr_of_str ⟨.str _, H, I.tok _, ⟨_, rfl⟩, by rw [PyData.shown] at q; exact q⟩ (by rw [PyData.shown] at hz; exact hz)
  | lst h1 h2 => cases rx; exact refs (.lst h1 h2)
  | tup h1 h2 => cases rx; exact refs (.tup h1 h2)
  | dic h1 => cases rx; exact refs (.dic h1)
def dReprQ (ds : List D) (h : AH) (Q : KD) : Prop := ∃ x, ds = [x] ∧ dq x = true ∧ (pq x).showable = true ∧ (pq x).depth ≤ 60 ∧ (pq x).shown.length ≤ sizeLine ∧ Q (.str (pq x).shown) h
theorem dReprQ_ok (hg : X.A.guards = some []) (hu : X.A.units + 64 < cLine) : CaD X (.builtin "repr") dReprQ where
  ex := ⟨_, call_reprQ hg hu, fun {F h H ds vs Q} S r q => by
    obtain ⟨x, rfl, e1, e2, e3, e4, q⟩ := q
    obtain ⟨v, rfl, r1⟩ := r.one
    exact ⟨v, _, rfl, Rep.dq S.fz r1 e1, e2, e3, e4, q.at S (.str _)⟩⟩
  mo := fun {ds h Q Q'} hq ⟨x, e, e1, e2, e3, e4, q⟩ => ⟨x, e, e1, e2, e3, e4, hq _ _ q⟩
end
end DL
namespace PySem.W
open PySem PySem.Spec PySem.Calls PyProof.Rows
section
variable {prog : Program} {w : World} {A : Around} {E : Value → Shared → Prop} {s : Shared}
theorem rc_lens {l b : Addr} {items items2 : Array Value} {Q : Value → Shared → Prop} (hl : s.heap.IsList l items) (hb : s.heap.IsList b items2) (hsz : items.size ≠ items2.size) (hu : A.units < cLine)
    (h : Q (.bool false) s) : wpAny (model prog w) A (richCompare .Eq (.ref l) (.ref b)) Q E s := by
  obtain ⟨⟨cls, dd, data, sl⟩, ho, hc, n, hd⟩ := id hl
  obtain ⟨⟨cls2, dd2, data2, sl2⟩, ho2, hc2, n2, hd2⟩ := id hb
  simp only at hc hd hc2 hd2
  subst hc hd hc2 hd2
  exact wpAny_richCompare_same_room (T := "list") (op := .Eq) ⟨_, ho, rfl⟩ ⟨_, ho2, rfl⟩ F.slot_list_eq (call_meets F.slot_list_eq ⟨_, ho, rfl⟩ F.entry_list_eq (F.args_list_eq_2 _ _) (SeqAt.list_eq_lengthsAt l b items items2 n n2 dd dd2 sl sl2 (by simpa using hsz))
    ⟨ho, ho2, show Value.bool false ≠ Value.notImplemented ∧ Q (.bool false) s from ⟨(fun x => nomatch x), h⟩⟩) hu
end
end PySem.W
namespace DL
open PySem PySem.Spec L2 C8
theorem vals_size {xs : List V} {us : List Value} (r : Vals xs us) : us.toArray.size = xs.length := by rw [r.length]; simp
/-- x == [], x == (): by length alone -/
def rEqE (K : PySem.W.Frag) : R2 := fun x y H Q => ∃ a b xs, x = .ref a ∧ y = .ref b ∧ ((SqL K H a xs ∧ SqL K H b []) ∨ (SqT K H a xs ∧ SqT K H b [])) ∧ Q (.bl xs.isEmpty) H
theorem op_eqE {X : Cx} (hu : X.A.units + 64 < cLine) : OpR X (compareOp .Eq) (rEqE X.K) := by
  intro pins s σ H x y v u Q I rx ry h
  obtain ⟨a, b, xs, rfl, rfl, hq, q⟩ := h
  cases rx; cases ry
  have fin : EP X pins σ Q (.bool xs.isEmpty) s := ⟨.bl _, H, I, rfl, q⟩
  rcases hq with ⟨h1, h2⟩ | ⟨h1, h2⟩
  · obtain ⟨its, rv, p, _⟩ := I.list h1
    obtain ⟨its2, rv2, p2, _⟩ := I.list h2
    have z1 := vals_size rv
    have z2 := vals_size rv2
    cases xs with
    | nil => exact PySem.SeqAt.rcIn_lists (e := fun _ => true) p.isList p2.isList (by rw [z1, z2]) (by omega) (fun j g1 g2 => by rw [z1] at g1; cases g1) (by rw [z1]; exact fin)
    | cons x xs => exact PySem.W.rc_lens p.isList p2.isList (by rw [z1, z2]; simp) (by omega) fin
  · obtain ⟨its, rv, p, _⟩ := I.tuple h1
    obtain ⟨its2, rv2, p2, _⟩ := I.tuple h2
    have z1 := vals_size rv
    have z2 := vals_size rv2
    refine PySem.SeqAt.rcIn_tuples (e := fun _ => true) p p2 (by omega) (fun j g1 g2 => by rw [z2] at g2; cases g2) ?_
    rw [z1, z2]
    cases xs with
    | nil => exact fin
    | cons x xs => exact fin
def dEqE (x y : D) (h : AH) (Q : KD) : Prop := match y with
  | .lst [] => ∃ xs, lstOf h x = some xs ∧ Q (.bl xs.isEmpty) h
  | .tup [] => ∃ xs, (x = .tup xs ∨ x = .tpl xs) ∧ Q (.bl xs.isEmpty) h
  | _ => False
theorem reps_emp {K : PySem.W.Frag} {F : Hp} {xs : List D} {vs : List V} (r : Reps K F xs vs) : vs.isEmpty = xs.isEmpty := by cases r <;> rfl
theorem dEqE_ok {K : PySem.W.Frag} : OpD K (rEqE K) dEqE where
  to := by
    intro F h H x y vx vy Q S rx ry q
    unfold dEqE at q
    split at q
    · obtain ⟨xs, e, q⟩ := q
      obtain ⟨a, vs, rfl, ha, rs⟩ := S.lstOf rx e
      cases ry with
      | @lst b _ ws hb rb =>
        cases rb
        exact ⟨a, b, vs, rfl, rfl, .inl ⟨.of ha, .of (S.fz _ _ hb)⟩, by rw [reps_emp rs]; exact q.at S (.bl _)⟩
    · obtain ⟨xs, e, q⟩ := q
      cases ry with
      | @tup b _ ws hb rb =>
        cases rb
        rcases e with rfl | rfl
        · cases rx with
          | @tup a _ vs ha rs => exact ⟨a, b, vs, rfl, rfl, .inr ⟨sqt_of S.fz ha, sqt_of S.fz hb⟩, by rw [reps_emp rs]; exact q.at S (.bl _)⟩
        · cases rx with
          | @tpl a _ _ vs ha hd rs => exact ⟨a, b, vs, rfl, rfl, .inr ⟨sqt_of S.fz (.inl (.inr ⟨_, ha⟩)), sqt_of S.fz hb⟩, by rw [reps_emp rs]; exact q.at S (.bl _)⟩
    · exact q.elim
  mo := by
    intro x y h Q Q' hq q
    unfold dEqE at *
    split at q
    · obtain ⟨xs, e, q⟩ := q; exact ⟨xs, e, hq _ _ q⟩
    · obtain ⟨xs, e, q⟩ := q; exact ⟨xs, e, hq _ _ q⟩
    · exact q
section
variable {X : Cx} {E : XK} {gz : Bool} {k : Nat} {a b : Expr} {wa wb : WE} {pos : Pos}
theorem ae_eqE (c : Cg gz X E k) (ha : AE X E a wa) (hb : AE X E b wb) : AE X E (.Compare a [.Eq] [b] pos) (wOp dEqE wa wb) := ae_cmp dEqE_ok (op_eqE c.room.units) ha hb
theorem at_eqE (c : Cg gz X E k) (ha : AE X E a wa) (hb : AE X E b wb) : AT X E (.Compare a [.Eq] [b] pos) (wTest (wOp dEqE wa wb)) := at_cmp dEqE_ok (op_eqE c.room.units) ha hb
end
end DL
namespace PySem.W
open PySem PySem.Spec PySem.Calls PyProof.Rows
section
variable {prog : Program} {w : World} {A : Around} {E : Value → Shared → Prop} {s : Shared} {env : Env} {elts : List Expr} {k : Nat} {pos : Pos}
theorem dstar_items {l : Addr} {items : Array Value} {n i : Nat} {Q : List Value → Shared → Prop} (hl : IsTup s.heap l items) (hh : A.handled = none) (hi : i < n) (hn : n ≤ items.size + 1) (hz : items.size ≤ 16384)
    (h : ∀ (h2 : Heap) (tk : Nat), (∀ b o, s.heap.get? b = some o → h2.get? b = some o) → Q (items.toList.take i ++ [.ref h2.objs.size] ++ (items.toList.drop i).drop (items.size + 1 - n)) { s with heap := h2.push { cls := .type "list", data := .seq ((items.toList.drop i).take (items.size + 1 - n)).toArray }, toks := tk }) : wpAny (model prog w) A (unpackItems (.ref l) n (some i)) Q E s := by
  have hlt : l ≠ s.heap.objs.size := by obtain ⟨o, ho, _⟩ := hl; exact Nat.ne_of_lt (Heap.lt_size ho)
  have hll : l < s.heap.objs.size := by obtain ⟨o, ho, _⟩ := hl; exact Heap.lt_size ho
  unfold unpackItems
  refine wpAny_bind ?_
  unfold notIterableAtAll
  refine wpAny_bind (wpAny_specialOf hl.typeIs slot_tuple_iter.lookup ?_)
  refine wpAny_pure ?_
  simp only [Bool.false_eq_true, if_false]
  refine wpAny_bind (wpAny_holding (iter_tuple hl ?_))
  refine wpAny_bind (wpAny_holding (draw_tuple hlt i 0 _ _ ⟨_, Heap.get?_push_size _ rfl, rfl, rfl⟩ (hl.push _) (by omega) fun h₁ hit₁ hs₁ => ?_))
  have hl₁ : IsTup h₁ l items := (hl.push _).extBut hs₁.extBut hlt
  rw [Nat.zero_add] at hit₁
  have hit₁' := hit₁
  obtain ⟨oi, hoi, _⟩ := hit₁'
  have hl₁' := hl₁
  obtain ⟨ol, hol, _⟩ := hl₁'
  rw [List.drop_zero]
  have hfl : (items.toList.take i).length = i := by rw [List.length_take, Array.length_toList]; omega
  rw [if_neg (show ¬ ((items.toList.take i).length < i) by rw [hfl]; omega)]
  refine wpAny_bind (wpAny_holding (kun_collect (s := { s with heap := h₁ }) (T := "tuple_iterator") (.inr (.inr (.inr rfl))) (Walks.tuple (A := A.in1) hh s.heap.objs.size l hlt items) (fun j u st => st.1.typeIs) (k := i) (by omega) ⟨hit₁, hl₁⟩ (Heap.lt_size hoi) (Heap.lt_size hol) (fun h₂ tk hk => ?_) (by rw [sizeLine_eq]; omega)))
  have hrl : (items.toList.drop i).length = items.size - i := by rw [List.length_drop, Array.length_toList]
  have hmid : (items.toList.drop i).length - (n - 1 - i) = items.size + 1 - n := by rw [hrl]; omega
  show wpAny _ _ (if (items.toList.drop i).length < n - 1 - i then _ else _) _ _ _
  rw [if_neg (by rw [hrl]; omega)]
  show wpAny _ _ (newList ((items.toList.drop i).take ((items.toList.drop i).length - (n - 1 - i))) >>= fun d => pure (items.toList.take i ++ [d] ++ (items.toList.drop i).drop ((items.toList.drop i).length - (n - 1 - i)))) _ _ _
  rw [hmid]
  have he : ∀ b o, s.heap.get? b = some o → h₂.get? b = some o := fun b o e => hk b o (Nat.ne_of_lt (Heap.lt_size e)) (hs₁.extBut b o (Nat.ne_of_lt (Heap.lt_size e)) (Heap.get?_push_of_some _ e))
  exact wpAny_bind (wpAny_newList (wpAny_pure (h h₂ tk he)) (by rw [List.length_take, hrl, sizeLine_eq]; omega))
theorem dstar_assign {l : Addr} {items : Array Value} {n i : Nat} {Q : Unit → Shared → Prop} (hl : IsTup s.heap l items) (hh : A.handled = none) (hlen : (assignEach elts env).length = n) (hstar : (assignEach elts env).findIdx? (·.1) = some i)
    (hi : i < n) (hn : n ≤ items.size + 1) (hz : items.size ≤ 16384)
    (h : ∀ (h2 : Heap) (tk : Nat), (∀ b o, s.heap.get? b = some o → h2.get? b = some o) → wpAny (model prog w) A (assignInOrder ((assignEach elts env).map (·.2)) (items.toList.take i ++ [.ref h2.objs.size] ++ (items.toList.drop i).drop (items.size + 1 - n))) Q E { s with heap := h2.push { cls := .type "list", data := .seq ((items.toList.drop i).take (items.size + 1 - n)).toArray }, toks := tk }) :
    wpAny (model prog w) A (assign (.Tuple elts k pos) env (.ref l)) Q E s := by
  rw [assign_Tuple]
  refine wpAny_bind (wpAny_standAt ?_)
  unfold unpack
  rw [hlen, hstar]
  exact wpAny_bind (wpAny_holding (dstar_items hl hh hi hn hz h))
end
end PySem.W
namespace L2
open PySem PySem.Spec PyProof.Rows
section
variable {X : Cx} {pos : Pos} {es : List Expr}
theorem pgs_star {e : Expr} {p : Pos} {es : List Expr} {t : TG} {u : TGs} (h1 : PG X e t) (h2 : PGs X es u)
    (hs : (assignEach (.Starred e p :: es) X.env).map (·.2) = assign e X.env :: (assignEach es X.env).map (·.2) := by rfl) : PGs X (.Starred e p :: es) (gCons t u) := by
  refine ⟨fun pins s σ H vs us Q I r h => ?_⟩
  obtain ⟨v, vr, e1, h⟩ := h
  subst e1
  cases r with
  | cons r rr =>
    rw [hs]
    refine assignInOrder_cons (thn (h1.run pins s σ H _ _ _ I r h) fun _ s1 ⟨σ1, H1, I1, q1⟩ => ?_)
    exact h2.run pins s1 σ1 H1 _ _ Q I1 rr q1
/-- (a, *b, ..) = a tuple -/
def gStarT (K : PySem.W.Frag) (n i : Nat) (t : TGs) : TG := fun v σ H Q => ∃ a xs, v = .ref a ∧ SqT K H a xs ∧ i < n ∧ n ≤ xs.length + 1 ∧ xs.length ≤ 16384 ∧
  ∀ p, H p = none → t (xs.take i ++ [V.ref p] ++ (xs.drop i).drop (xs.length + 1 - n)) σ (upd H p (.lst ((xs.drop i).take (xs.length + 1 - n)))) Q
theorem vals_take {xs : List V} {us : List Value} (r : Vals xs us) : ∀ n, Vals (xs.take n) (us.take n) := by
  induction r with
  | nil => intro n; simp; exact .nil
  | cons h t ih =>
    intro n
    cases n with
    | zero => exact .nil
    | succ n => exact .cons h (ih n)
theorem vals_drop {xs : List V} {us : List Value} (r : Vals xs us) : ∀ n, Vals (xs.drop n) (us.drop n) := by
  induction r with
  | nil => intro n; simp; exact .nil
  | cons h t ih =>
    intro n
    cases n with
    | zero => exact .cons h t
    | succ n => exact ih n
theorem pg_starT {k n i : Nat} {t : TGs} (hc : X.calm = true) (h : PGs X es t)
    (hn : (assignEach es X.env).length = n := by rfl) (hst : (assignEach es X.env).findIdx? (·.1) = some i := by rfl) : PG X (.Tuple es k pos) (gStarT X.K n i t) := by
  refine ⟨fun pins s σ H v u Q I r hw => ?_⟩
  obtain ⟨a, xs, e1, hq, h1, h2, h3, hw⟩ := hw
  subst e1
  cases r
  obtain ⟨its, rv, ht, hz⟩ := I.tuple hq
  have lv : its.toArray.size = xs.length := by rw [rv.length]; simp
  refine PySem.W.dstar_assign ht (I.ok.hd hc) hn hst h1 (by rw [lv]; exact h2) (by rw [lv]; exact h3) fun g tk hx => ?_
  have I1 : Inv X pins σ H { s with heap := g, toks := tk } := I.kept (t' := tk) fun b o e => hx b o e
  have hf : H g.objs.size = none := I1.hok.fresh (Nat.le_refl _)
  have rm : Vals ((xs.drop i).take (xs.length + 1 - n)) ((its.drop i).take (xs.length + 1 - n)) := vals_take (vals_drop rv i) _
  have I2 : Inv X pins σ (upd H g.objs.size (.lst ((xs.drop i).take (xs.length + 1 - n)))) { s with heap := g.push { cls := .type "list", data := .seq ((its.drop i).take (xs.length + 1 - n)).toArray }, toks := tk } := by
    refine I1.laid (t' := tk) (fun b u e => Heap.get?_push_of_some _ e) (Nat.le_refl _) ?_
    refine ⟨?_, _, 0, rm, Heap.get?_push_size _ rfl⟩
    rw [List.length_take, List.length_drop, sizeLine_eq]
    omega
  refine h.run pins _ σ _ _ _ Q (by rw [lv]; exact I2) ?_ (hw _ hf)
  rw [lv]
  refine ((vals_take rv i).append (.cons (a := V.ref g.objs.size) (b := Value.ref g.objs.size) rfl .nil)).append (vals_drop (vals_drop rv i) _)
end
end L2
namespace DL
open PySem PySem.Spec L2 C8
section
variable {X : Cx} {E : XK} {pos : Pos} {e : Expr} {es : List Expr}
theorem ags_star {p : Pos} {g : WG} {gr : WGs} (h1 : AG X E e g) (h2 : AGs X E es gr) (hs : (assignEach (.Starred e p :: es) X.env).map (·.2) = assign e X.env :: (assignEach es X.env).map (·.2) := by rfl) : AGs X E (.Starred e p :: es) (gsCons g gr) := by
  refine ⟨PGs.imp (pgs_star h1.run h2.run hs) fun v σ H Q ⟨F, ρ, h, d, S, R, r, q⟩ => ?_, fun d ρ h Q Q' X X' hq hx q => ?_⟩
  · obtain ⟨x, xs, rfl, q⟩ := q
    cases r with
    | cons r rr =>
      refine ⟨_, _, rfl, F, ρ, h, x, S, R, r, h1.mo _ _ _ _ _ _ _ (fun ρ1 g1 z => ?_) (fun _ _ z => z) q⟩
      intro F1 H1 σ1 e1 S1 R1
      exact ⟨F1, ρ1, g1, xs, S1, R1, rr.ext e1, h2.mo _ _ _ _ _ _ _ (fun _ _ z => LS.ext e1 z) (fun _ _ z => LX.ext e1 z) z⟩
  · obtain ⟨x, xs, e, q⟩ := q
    exact ⟨x, xs, e, h1.mo _ _ _ _ _ _ _ (fun ρ1 g1 z => h2.mo _ _ _ _ _ _ _ hq hx z) hx q⟩
/-- (a, *b, ..) = a tuple: the list is one that does not change -/
def gStarD (n i : Nat) (t : WGs) : WG := fun d ρ h Q X => ∃ xs, d = .tup xs ∧ i < n ∧ n ≤ xs.length + 1 ∧ xs.length ≤ 16384 ∧ t (xs.take i ++ [.lst ((xs.drop i).take (xs.length + 1 - n))] ++ (xs.drop i).drop (xs.length + 1 - n)) ρ h Q X
theorem ag_starT {k2 n i : Nat} {gr : WGs} (hc : X.calm = true) (h : AGs X E es gr) (hn : (assignEach es X.env).length = n := by rfl) (hst : (assignEach es X.env).findIdx? (·.1) = some i := by rfl) : AG X E (.Tuple es k2 pos) (gStarD n i gr) := by
  refine ⟨PG.imp (pg_starT hc h.run hn hst) fun v σ H Q ⟨F, ρ, g, d, S, R, r, q⟩ => ?_, fun d ρ g Q Q' X X' hq hx q => ?_⟩
  · obtain ⟨xs, rfl, l1, l2, l3, q⟩ := q
    cases r with
    | @tup a _ vs hs rs =>
      refine ⟨a, vs, rfl, sqt_of S.fz hs, l1, by rw [← rs.length]; exact l2, by rw [← rs.length]; exact l3, fun p hp => ?_⟩
      have lv := rs.length
      obtain ⟨f, gg⟩ := S.free hp
      have e := ext_upd f (o := .lst ((vs.drop i).take (vs.length + 1 - n)))
      refine ⟨_, ρ, g, _, S.newF hp _, R.ext e, ?_, h.mo _ _ _ _ _ _ _ (fun _ _ z => LS.ext e z) (fun _ _ z => LX.ext e z) q⟩
      rw [lv]
      have rd := rs.drop i
      refine Reps.append (Reps.append ((rs.take i).ext e) (.cons (.lst upd_same ((rd.take _).ext e)) .nil)) ((rd.drop _).ext e)
  · obtain ⟨xs, e, l1, l2, l3, q⟩ := q
    exact ⟨xs, e, l1, l2, l3, h.mo _ _ _ _ _ _ _ hq hx q⟩
end
end DL
namespace DL
open PySem PySem.Spec L2 C8
/-- a def of which nothing is promised yet -/
theorem fng_none {gz : Bool} {P : Program} {w : World} {K : PySem.W.Frag} {mg : Str → Option Value} {base : Heap} {k : Nat} {f : Addr} {fd : FuncData} {ps : List Str} {S : FSpec} (no : ∀ ds h Q X, ¬ S ds h Q X) : FnG gz P w K mg base k f fd ps S :=
  ⟨fun _ _ _ _ s => (no _ _ _ _ s).elim, fun _ _ _ _ _ _ _ _ s => (no _ _ _ _ s).elim, fun _ _ _ _ _ ⟨_, _, _, _, _, s⟩ => (no _ _ _ _ s).elim⟩
/-! ### a tuple of texts that a name of the module holds -/
def strOf : Value → Option Str
  | .str x _ => some x
  | _ => none
def strsOf : List Value → Option (List Str)
  | [] => some []
  | v :: vs => match strOf v, strsOf vs with
    | some x, some xs => some (x :: xs)
    | _, _ => none
theorem strs_vals : ∀ {vs : List Value} {xs : List Str}, strsOf vs = some xs → Vals (xs.map V.str) vs
  | [], _, h => by cases h; exact .nil
  | v :: vs, xs, h => by
    unfold strsOf at h
    split at h
    · rename_i x ys h1 h2
      cases h
      cases v with
      | str y t => cases h1; exact .cons ⟨t, rfl⟩ (strs_vals h2)
      | _ => cases h1
    · cases h
theorem reps_strs {K : PySem.W.Frag} {F : Hp} : ∀ xs : List Str, Reps K F (xs.map D.str) (xs.map V.str)
  | [] => .nil
  | x :: xs => .cons (.str x) (reps_strs xs)
theorem cst_strs {K : PySem.W.Frag} {mg : Str → Option Value} {x : Str} {a : Addr} {xs : List Str} {d : Option Addr} {its : Array Value} {m : Nat} {sl : Array (Option Value)} (h : mg x = some (.ref a)) (e : K.lookup a = some ⟨.type "tuple", d, .seq its m, sl⟩) (c : its.size ≤ 1000) (q : strsOf its.toList = some xs) : Cst K mg x (.tup (xs.map D.str)) :=
  ⟨⟨.ref a, _, h, rfl, fun F => .tup (.inr ⟨_, its, m, e, rfl, rfl, Nat.le_trans c (by rw [sizeLine_eq]; decide), strs_vals q⟩) (reps_strs xs)⟩⟩
end DL
namespace DL
open PySem PySem.Spec L2 C8
/-! ### the draw of the laws k01-k11, k47-k57, k96-k99 -/
def w_draw2 : WS := (wSeq (wIfS (wTest (wOp (dCmpI fun i j => decide (j < i)) (wOp dIx (wVar 0) (wC (.int 2))) (wC (.int 0)))) (wSeq (wAsg (wOp dMod (wOp dIx (wVar 0) (wC (.int 2))) (wVar 1)) (gN 2))
  (wSeq (wAsg (wOp dDiv (wOp dIx (wVar 0) (wC (.int 2))) (wVar 1)) (gSubL (wVar 0) (wC (.int 2))))
  (wRet (wVar 2)))) wSkip)
  (wSeq (wAsg (wOp dIx (wVar 0) (wC (.int 1))) (gN 3))
  (wSeq (wAsg (wOp (dAdd false) (wVar 3) (wC (.int 1))) (gSubL (wVar 0) (wC (.int 1))))
  (wSeq (wAsg (wOp (dAdd false) (wOp (dMul false) (wC (.int 80239)) (wVar 3)) (wC (.int 71))) (gN 4))
  (wSeq (wIfS (wTest (wOp (dEq fun b => !b) (wOp dIx (wVar 0) (wC (.int 0))) (wLst false wNil))) (wAsg (wOp dIx (wOp dIx (wVar 0) (wC (.int 0))) (wOp dMod (wVar 3) (wB dLen (wCons (wOp dIx (wVar 0) (wC (.int 0))) wNil)))) (gN 4)) wSkip)
  (wSeq (wIfS (wAnd (wTest (wOp (dCmpI fun i j => decide (i < j)) (wVar 3) (wB dLen (wCons (wOp dIx (wVar 0) (wC (.int 0))) wNil)))) (wTest (wOp (dCmpI fun i j => decide (j ≤ i)) (wB dAbs (wCons (wVar 4) wNil)) (wOp dPow (wC (.int 10)) (wC (.int 18)))))) (wSeq (wAsg (wOp (dAdd false) (wOp (dMul false) (wC (.int 2)) (wB dAbs (wCons (wVar 4) wNil))) (wB dInt (wCons (wOp (dCmpI fun i j => decide (i < j)) (wVar 4) (wC (.int 0))) wNil))) (gN 5))
  (wSeq (wAsg (wOp dDiv (wVar 5) (wVar 1)) (gSubL (wVar 0) (wC (.int 2))))
  (wRet (wOp dMod (wVar 5) (wVar 1))))) wSkip)
  (wSeq (wAsg (wOp dMod (wOp dPow (wOp (dAdd false) (wOp (dAdd false) (wOp dMod (wVar 4) (wC (.int 2147483587))) (wOp (dMul false) (wC (.int 61027)) (wVar 3))) (wC (.int 29))) (wC (.int 3))) (wC (.int 2147483629))) (gN 6))
  (wSeq (wAsg (wOp dMod (wOp dPow (wOp (dAdd false) (wOp (dMul false) (wVar 6) (wOp (dAdd false) (wOp (dMul false) (wC (.int 2)) (wVar 3)) (wC (.int 9)))) (wC (.int 93239))) (wC (.int 3))) (wC (.int 2147483543))) (gN 6))
  (wRet (wOp dMod (wOp dDiv (wVar 6) (wC (.int 16))) (wVar 1)))))))))))
theorem p_draw2 : ∀ ds h Q X, S_draw ds h Q X → w_draw2 (endsD Q X) (startD 7 ds) h := by
  rintro ds h Q X ⟨n, p, m, rfl, ⟨_, hp, cs, at_, gr, rfl, l1, l2, l3, l4⟩, hn, dm, q⟩
  show w_draw2 (endsD Q X) [some (.ref p), some (.int m), none, none, none, none, none] h
  have hm : 0 < m := dm.1
  unfold w_draw2
  rw [u_seq]
  simp only [u_asg, u_gN, u_ret, u_retN, u_skip, u_expr, u_ifs, u_c, u_op, u_neg, u_test, u_and, u_or, u_not, u_if, u_nil, u_cons, u_tup, u_lst, u_callP, u_call, u_b, u_chain, u_andV, u_addI, u_subI, u_mulI, u_divI, u_modI, u_powI, u_cmpI, u_eqI, u_eqS, u_eqB, u_abs, u_intI, u_intB, u_newT, u_newF, u_isN, u_notN, wVar, List.set_cons_zero, List.set_cons_succ, List.getElem?_cons_zero, List.getElem?_cons_succ, List.length_cons, List.length_nil, u_ixRd hp at2]
  by_cases c : 0 < gr
  · simp only [decide_eq_true c, if_true, u_seq, u_asg, u_gN, u_ret, u_retN, u_skip, u_expr, u_ifs, u_c, u_op, u_neg, u_test, u_and, u_or, u_not, u_if, u_nil, u_cons, u_tup, u_lst, u_callP, u_call, u_b, u_chain, u_andV, u_addI, u_subI, u_mulI, u_divI, u_modI, u_powI, u_cmpI, u_eqI, u_eqS, u_eqB, u_abs, u_intI, u_intB, u_newT, u_newF, u_isN, u_notN, wVar, List.set_cons_zero, List.set_cons_succ, List.getElem?_cons_zero, List.getElem?_cons_succ, List.length_cons, List.length_nil, u_ixRd hp at2, gSubL]
    refine ⟨hm, dm, p, _, 2, 2, rfl, rfl, hp, rfl, fin_of (q _ _ (Int.emod_nonneg _ (by omega)) (Int.emod_lt_of_pos _ hm) ⟨cs, at_, gr / m, rfl, l1, l2, by omega, Int.ediv_nonneg l4 (by omega)⟩)⟩
  simp only [decide_eq_false c, Bool.false_eq_true, if_false]
  rw [u_seq]
  simp only [u_asg, u_gN, u_ret, u_retN, u_skip, u_expr, u_ifs, u_c, u_op, u_neg, u_test, u_and, u_or, u_not, u_if, u_nil, u_cons, u_tup, u_lst, u_callP, u_call, u_b, u_chain, u_andV, u_addI, u_subI, u_mulI, u_divI, u_modI, u_powI, u_cmpI, u_eqI, u_eqS, u_eqB, u_abs, u_intI, u_intB, u_newT, u_newF, u_isN, u_notN, wVar, List.set_cons_zero, List.set_cons_succ, List.getElem?_cons_zero, List.getElem?_cons_succ, List.length_cons, List.length_nil, u_ixRd hp at1]
  rw [u_seq]
  simp only [u_asg, u_gN, u_ret, u_retN, u_skip, u_expr, u_ifs, u_c, u_op, u_neg, u_test, u_and, u_or, u_not, u_if, u_nil, u_cons, u_tup, u_lst, u_callP, u_call, u_b, u_chain, u_andV, u_addI, u_subI, u_mulI, u_divI, u_modI, u_powI, u_cmpI, u_eqI, u_eqS, u_eqB, u_abs, u_intI, u_intB, u_newT, u_newF, u_isN, u_notN, wVar, List.set_cons_zero, List.set_cons_succ, List.getElem?_cons_zero, List.getElem?_cons_succ, List.length_cons, List.length_nil, gSubL]
  refine ⟨p, _, 1, 1, rfl, rfl, hp, rfl, ?_⟩
  have e1 : ([D.lst (cs.map D.int), D.int at_, D.int gr].set 1 (D.int (at_ + 1))) = [D.lst (cs.map D.int), D.int (at_ + 1), D.int gr] := rfl
  rw [e1]
  have ug : ∀ o, up (up h p (.lst [D.lst (cs.map D.int), D.int (at_ + 1), D.int gr])) p o = up h p o := fun o => up_up
  have gp : (up h p (.lst [D.lst (cs.map D.int), D.int (at_ + 1), D.int gr])) p = some (.lst [D.lst (cs.map D.int), D.int (at_ + 1), D.int gr]) := up_same
  have fin0 : ∀ v, 0 ≤ v → v < m → Q (.int v) (up h p (.lst [D.lst (cs.map D.int), D.int (at_ + 1), D.int gr])) := fun v h1 h2 => q v _ h1 h2 ⟨cs, at_ + 1, gr, rfl, l1, by omega, by omega, l4⟩
  have fin1 : ∀ v g, 0 ≤ v → v < m → 0 ≤ g → Q (.int v) (up h p (.lst [D.lst (cs.map D.int), D.int (at_ + 1), D.int g])) := fun v g h1 h2 h3 => q v _ h1 h2 ⟨cs, at_ + 1, g, rfl, l1, by omega, by omega, h3⟩
  generalize hg : up h p (.lst [D.lst (cs.map D.int), D.int (at_ + 1), D.int gr]) = g at gp ug fin0 ⊢
  rw [u_seq]
  simp only [u_asg, u_gN, u_ret, u_retN, u_skip, u_expr, u_ifs, u_c, u_op, u_neg, u_test, u_and, u_or, u_not, u_if, u_nil, u_cons, u_tup, u_lst, u_callP, u_call, u_b, u_chain, u_andV, u_addI, u_subI, u_mulI, u_divI, u_modI, u_powI, u_cmpI, u_eqI, u_eqS, u_eqB, u_abs, u_intI, u_intB, u_newT, u_newF, u_isN, u_notN, wVar, List.set_cons_zero, List.set_cons_succ, List.getElem?_cons_zero, List.getElem?_cons_succ, List.length_cons, List.length_nil]
  refine ⟨mul_l (by decide), ?_⟩
  -- the cell
  refine seq_go (fun ρ h => g = h ∧ ∃ c : Int, ρ = [some (.ref p), some (.int m), none, some (.int at_), some (.int c), none, none]) (fun K k => ?_) ?_
  · simp only [u_asg, u_gN, u_ret, u_retN, u_skip, u_expr, u_ifs, u_c, u_op, u_neg, u_test, u_and, u_or, u_not, u_if, u_nil, u_cons, u_tup, u_lst, u_callP, u_call, u_b, u_chain, u_andV, u_addI, u_subI, u_mulI, u_divI, u_modI, u_powI, u_cmpI, u_eqI, u_eqS, u_eqB, u_abs, u_intI, u_intB, u_newT, u_newF, u_isN, u_notN, wVar, List.set_cons_zero, List.set_cons_succ, List.getElem?_cons_zero, List.getElem?_cons_succ, List.length_cons, List.length_nil, u_ixRd gp at0]
    refine ⟨Nat.zero_le _, eq_nil ?_⟩
    by_cases z : cs = []
    · rw [decide_eq_true z]
      exact k _ _ ⟨rfl, _, rfl⟩
    rw [decide_eq_false z]
    simp only [Bool.not_false, if_true, u_ixRd gp at0, u_lenL, u_modI, u_ixL]
    have lc : 0 < cs.length := List.length_pos_iff.mpr z
    have lp : (0 : Int) < ((cs.map D.int).length : Nat) := by rw [List.length_map]; omega
    refine ⟨lp, ?_⟩
    have a0 := Int.emod_nonneg at_ (show (((cs.map D.int).length : Nat) : Int) ≠ 0 by omega)
    have a1 := Int.emod_lt_of_pos at_ lp
    obtain ⟨j, ej⟩ := Int.eq_ofNat_of_zero_le a0
    rw [ej] at a1 ⊢
    rw [List.length_map] at a1
    have lj : j < cs.length := by omega
    refine ⟨.int cs[j], ?_, k _ _ ⟨rfl, _, rfl⟩⟩
    rw [atI_nat (by rw [List.length_map]; exact lj), List.getElem?_map, List.getElem?_eq_getElem lj]
    rfl
  rintro _ _ ⟨rfl, c, rfl⟩
  refine seq_go (fun ρ h => g = h ∧ ρ = [some (.ref p), some (.int m), none, some (.int at_), some (.int c), none, none]) (fun K k => ?_) ?_
  · simp only [u_asg, u_gN, u_ret, u_retN, u_skip, u_expr, u_ifs, u_c, u_op, u_neg, u_test, u_and, u_or, u_not, u_if, u_nil, u_cons, u_tup, u_lst, u_callP, u_call, u_b, u_chain, u_andV, u_addI, u_subI, u_mulI, u_divI, u_modI, u_powI, u_cmpI, u_eqI, u_eqS, u_eqB, u_abs, u_intI, u_intB, u_newT, u_newF, u_isN, u_notN, wVar, List.set_cons_zero, List.set_cons_succ, List.getElem?_cons_zero, List.getElem?_cons_succ, List.length_cons, List.length_nil, u_ixRd gp at0, u_lenL]
    have k := k _ _ ⟨rfl, rfl⟩
    by_cases z : at_ < ((cs.map D.int).length : Nat)
    · rw [decide_eq_true z]
      simp only [if_true]
      refine ⟨by refine ⟨by decide, by decide, by decide⟩, ?_⟩
      by_cases y : (10 ^ Int.toNat 18 : Int) ≤ if c < 0 then -c else c
      · rw [if_pos (decide_eq_true y)]
        simp only [u_seq, u_asg, u_gN, u_ret, u_retN, u_skip, u_expr, u_ifs, u_c, u_op, u_neg, u_test, u_and, u_or, u_not, u_if, u_nil, u_cons, u_tup, u_lst, u_callP, u_call, u_b, u_chain, u_andV, u_addI, u_subI, u_mulI, u_divI, u_modI, u_powI, u_cmpI, u_eqI, u_eqS, u_eqB, u_abs, u_intI, u_intB, u_newT, u_newF, u_isN, u_notN, wVar, List.set_cons_zero, List.set_cons_succ, List.getElem?_cons_zero, List.getElem?_cons_succ, List.length_cons, List.length_nil, gSubL]
        have nn : 0 ≤ 2 * (if c < 0 then -c else c) + (if decide (c < 0) = true then 1 else 0) := by split <;> split <;> omega
        refine ⟨mul_l (by decide), dm, p, _, 2, 2, rfl, rfl, gp, rfl, hm, fin_of ?_⟩
        rw [ug]
        exact fin1 _ _ (Int.emod_nonneg _ (by omega)) (Int.emod_lt_of_pos _ hm) (Int.ediv_nonneg nn (by omega))
      · rw [if_neg (by rw [decide_eq_false y]; decide)]
        exact k
    · rw [decide_eq_false z]
      exact k
  rintro _ _ ⟨rfl, rfl⟩
  simp only [u_seq, u_asg, u_gN, u_ret, u_retN, u_skip, u_expr, u_ifs, u_c, u_op, u_neg, u_test, u_and, u_or, u_not, u_if, u_nil, u_cons, u_tup, u_lst, u_callP, u_call, u_b, u_chain, u_andV, u_addI, u_subI, u_mulI, u_divI, u_modI, u_powI, u_cmpI, u_eqI, u_eqS, u_eqB, u_abs, u_intI, u_intB, u_newT, u_newF, u_isN, u_notN, wVar, List.set_cons_zero, List.set_cons_succ, List.getElem?_cons_zero, List.getElem?_cons_succ, List.length_cons, List.length_nil]
  have b1 : 0 ≤ c % 2147483587 := Int.emod_nonneg _ (by decide)
  have b2 : c % 2147483587 < 2147483587 := Int.emod_lt_of_pos _ (by decide)
  have b3 : at_ ≤ 1000000 := by omega
  generalize e6 : (c % 2147483587 + 61027 * at_ + 29) = u
  have b6 : 0 ≤ u ∧ u < 2 ^ 63 := by omega
  generalize e7 : u ^ Int.toNat 3 % 2147483629 = v
  have b7 : 0 ≤ v ∧ v < 2147483629 := by rw [← e7]; exact ⟨Int.emod_nonneg _ (by decide), Int.emod_lt_of_pos _ (by decide)⟩
  have b8 : v * (2 * at_ + 9) ≤ 2147483629 * (2 * 1000000 + 9) := Int.mul_le_mul (by omega) (by omega) (by omega) (by omega)
  have b9 : 0 ≤ v * (2 * at_ + 9) := Int.mul_nonneg b7.1 (by omega)
  refine ⟨by decide, mul_l (by decide), ⟨by decide, by decide, by omega⟩, by decide, mul_l (by decide), mul_l (by omega), ⟨by decide, by decide, by omega⟩, by decide, ⟨by decide, .inl (by decide)⟩, hm, fin_of (fin0 _ (Int.emod_nonneg _ (by omega)) (Int.emod_lt_of_pos _ hm))⟩
end DL
namespace DL
open PySem PySem.Spec L2 C8 PyProof.Rows
/-! ### max(d, default=x), d with int keys -/
section
variable {X : Cx}
def rMaxDd : List V → List V → Hp → VK → Prop := fun xs zs H Q => ∃ (a : Addr) (z : V) (kvs : List (Key × V)) (ks : List Int), xs = [.ref a] ∧ zs = [z] ∧ H a = some (.dK kvs) ∧ kvs.map (·.1) = ks.map Sum.inl ∧ (ks = [] → Q z H) ∧ ∀ m, m ∈ ks → (∀ y ∈ ks, y ≤ m) → Q (.int m) H
theorem cr_maxDd (hc : X.calm = true) : CallRK X (.builtin "max") ["default"] (rMaxDd) := by
  intro pins s σ H xs zs us ws Q I r rz h
  obtain ⟨a, z, kvs, ks, rfl, rfl, ha, hks, q0, q1⟩ := h
  obtain rfl := Vals.ref1 r
  obtain ⟨zv, rfl, rzv⟩ := vals1 rz
  obtain ⟨zl, lo, vs, rel, dd⟩ := (show ObjOk X.prog X.w H s.heap a (.dK kvs) from I.hok a _ ha)
  obtain ⟨ep, hat⟩ := dd.dictAt
  have hkeys : vs.map (·.1) = ks.map Sum.inl := (KV.keys rel).symm.trans hks
  have hl : vs.length = ks.length := by
    have e := congrArg List.length hkeys
    rw [List.length_map, List.length_map] at e
    exact e
  have hlt : a < s.heap.objs.size := hat.lt_size
  have pv : ∀ (i : Nat) (v : Value), (∃ k x, vs[i]? = some (k, x) ∧ (mixKind X.prog X.w).is k v = true) → ∃ t, v = .int (ks.getD i 0) t := fun i v ⟨k, x, e1, e2⟩ => by
    have e3 : (vs.map (·.1))[i]? = some k := by rw [List.getElem?_map, e1]; rfl
    rw [hkeys, List.getElem?_map] at e3
    cases e4 : ks[i]? with
    | none => rw [e4] at e3; cases e3
    | some y =>
      rw [e4] at e3
      have e5 : Sum.inl y = k := Option.some.inj e3
      subst e5
      rcases keyIs_shape (show keyIs (Sum.inl y) v = true from e2) with ⟨i, t, ek, ev⟩ | ⟨z, t, ek, ev⟩
      · cases ek
        exact ⟨t, by rw [ev, List.getD_eq_getElem?_getD, e4]; rfl⟩
      · cases ek
  show wpAny _ _ (call (.builtin "max") [.ref a] [(Str.ofString "default", zv)]) _ _ _
  refine call_max_walkD (wpAny_pyIter_dict lo hat ?_)
  refine ⟨s.heap.objs.size, _, _, _, vs.length, _, _, s.heap, (fun i j => decide (ks.getD i 0 > ks.getD j 0)), rfl, (Walks.dictKeys (A := X.A.in1) (knd := mixKind X.prog X.w) (I.ok.hd hc) s.heap.objs.size a (Nat.ne_of_lt hlt) vs ep).toS, ⟨⟨_, Heap.get?_push_size _ rfl, rfl, rfl⟩, hat.push _⟩, fun b hb => ?_, fun b o e hb => ?_, fun b o e => Heap.get?_push_of_some _ e, fun hn s' hm => ?_, fun hn => ⟨fun i j vi vj s Q E _ h1 h2 h3 => CmpOf.ints_gt (fun i => ks.getD i 0) pv i j vi vj s Q E h1 h2 h3, fun v s' hP hm => ?_⟩⟩
  · show b < (s.heap.push _).objs.size
    rw [Heap.size_push]
    rcases List.mem_cons.mp hb with rfl | hb
    · exact Nat.lt_succ_self _
    · rcases List.mem_cons.mp hb with rfl | hb
      · exact Nat.lt_succ_of_lt hlt
      · cases hb
  · exact absurd (Heap.lt_size e) ((List.mem_singleton.mp hb) ▸ Nat.lt_irrefl _)
  · obtain ⟨h', tk, rfl, hk'⟩ := PySem.W.moved_old rfl rfl hm
    exact ⟨z, H, I.kept hk', rzv, q0 (List.eq_nil_of_length_eq_zero (by omega))⟩
  · obtain ⟨h', tk, rfl, hk'⟩ := PySem.W.moved_old rfl rfl hm
    obtain ⟨t, rfl⟩ := pv _ v hP
    obtain ⟨h1, h2⟩ := argBest_gt (fun i => ks.getD i 0) (vs.length - 1)
    refine ⟨.int _, H, I.kept hk', ⟨t, rfl⟩, q1 _ ?_ fun y hy => ?_⟩
    · exact PySem.getD_mem (by omega)
    · obtain ⟨j, hj, rfl⟩ := mem_getD hy
      exact h2 j (by omega)
end
section
variable {X : Cx} {E : XK} {gz : Bool} {k : Nat} {o e : Expr} {wo wv : WE} {pos p kpos : Pos}
def wMaxDd (wl wk : WA) : WE := fun ρ h Q X => wl ρ h (fun xs h1 => wk ρ h1 (fun zs h2 => ∃ (x z : D) (kvs : List (Key × D)) (ks : List Int), xs = [x] ∧ zs = [z] ∧ dkOf h2 x = some kvs ∧ kvs.map (·.1) = ks.map Sum.inl ∧ (ks = [] → Q z h2) ∧ ∀ m, m ∈ ks → (∀ y ∈ ks, y ≤ m) → Q (.int m) h2) X) X
theorem ae_maxDd {wl wk : WA} (hm : X.mg "max" = none) (c : Cg gz X E k) (A1 : AA X E [o] wl) (A2 : AK X E [⟨some "default", e, kpos⟩] wk) (hg : Gl X "max" := by rfl)
    (he : backTo pos (starEach [o] X.env) = (false, eval o X.env) :: backTo pos (starEach [] X.env) := by rfl) (hpl : (backTo pos (starEach [o] X.env)).any (·.1) = false := by rfl)
    (hall : (backToKw pos (keywordEach [⟨some "default", e, kpos⟩] X.env)).all (·.1.isSome) = true := by rfl) (hnone : (backToKw pos (keywordEach [⟨some "default", e, kpos⟩] X.env)).any (·.1.isNone) = false := by rfl) (hks : (backToKw pos (keywordEach [⟨some "default", e, kpos⟩] X.env)).filterMap (·.1) = [("default" : Str)] := by rfl) :
    AE X E (.Call (.Name "max" p) [o] [⟨some "default", e, kpos⟩] pos) (wMaxDd wl wk) := by
  refine ⟨PE.imp (pe_callBK (cr_maxDd c.calm) hg hm bb_max A1.run A2.run (he := he) (hpl := hpl) (hall := hall) (hnone := hnone) (hks := hks)) fun σ H Q ⟨F, ρ, h, S, R, q⟩ => ?_, fun ρ h Q Q' X X' hq hx q => A1.mo _ _ _ _ _ _ (fun xs h1 z => A2.mo _ _ _ _ _ _ (fun zs h2 ⟨x, y, kvs, ks, e1, e2, e3, e4, z1, z2⟩ => ⟨x, y, kvs, ks, e1, e2, e3, e4, fun e => hq _ _ (z1 e), fun m h1 h2 => hq _ _ (z2 m h1 h2)⟩) hx z) hx q⟩
  refine ⟨F, ρ, h, S, R, A1.mo _ _ _ _ _ _ (fun xs h1 z => ?_) (fun _ _ z => z) q⟩
  intro F1 H1 vs e1 S1 rs
  refine ⟨F1, ρ, h1, S1, R.ext e1, A2.mo _ _ _ _ _ _ (fun zs h2 z => ?_) (fun _ _ z => LX.ext e1 z) z⟩
  intro F2 H2 ws e2 S2 rw'
  obtain ⟨x, y, kvs, ks, rfl, rfl, d1, d2, z1, z2⟩ := z
  obtain ⟨vx, rfl, rx⟩ := rs.one
  obtain ⟨vy, rfl, ry⟩ := rw'.one
  obtain ⟨a, us, rfl, hu, rk⟩ := S2.dkOf (rx.ext e2) d1
  exact ⟨a, vy, us, ks, rfl, rfl, hu, by rw [← rk.keys]; exact d2, fun e => (LQ.ext (e1.trans e2) (z1 e)).at S2 ry, fun m h1 h2 => (LQ.ext (e1.trans e2) (z2 m h1 h2)).at S2 (.int m)⟩
end
end DL
namespace DL
open PySem PySem.Spec L2 C8 PyProof.Rows
/-! ### tuple(d.items()) -/
section
variable {prog : Program} {w : World} {A : Around} {E : Value → Shared → Prop} {s : Shared} {K : Type} [DecidableEq K] {knd : KeyKind prog w K} {r d : Addr} {kvs : List (K × Value)} {ep : Nat}
theorem code_tuple_new_view {Q₁ : Value → Shared → Prop} (hh : A.handled = none) (hv : s.heap.IsItemsView r d) (hm : s.heap.DictAt knd d kvs ep) (hn : kvs.length ≤ sizeLine)
    (h : ∀ (h' : Heap) (tk : Nat) (as : List Addr), (∀ b o, s.heap.get? b = some o → h'.get? b = some o) → as.length = kvs.length → PySem.W.KdxG knd kvs s.heap.objs.size h' as →
      Q₁ (.ref h'.objs.size) { s with heap := h'.push { cls := .type "tuple", data := .seq (as.map Value.ref).toArray }, toks := tk }) :
    codeAny (model prog w) A (.call (.builtin "tuple.__new__") ⟨[.type "tuple", .ref r], []⟩) (wants Q₁ E) s := by
  refine codeAny_of_tree ?_
  show wpAny _ A.in1 (do checkBuiltinCall "tuple.__new__" ⟨[.type "tuple", .ref r], []⟩; again (.builtin "tuple.__new__" ⟨[.type "tuple", .ref r], []⟩)) _ _ s
  refine wpAny_bind (wpAny_of_eq (F.newCall_tuple_1 _) (wpAny_pure ⟨plainId_quiet F.plain_tuple_new _, codeAny_builtin F.entry_tuple_new ?_⟩))
  rw [Around.under_plainId F.plain_tuple_new _]
  have hsub := sub_tuple_self
  have hinit := init_tuple_lookup
  have hmh := madeHere_tuple
  have hTI : s.TypeIs (.ref r) "dict_items" := hv.typeIs
  have hh1 : A.in1.handled = none := hh
  wp_walk using wpAny_typeOf hTI, PySem.W.kdx_collect (A := A.in1) hh1 hv hm hn
  intro h' tk as hk hl hG
  show wpAny _ _ (Builtin.Tuple.tupleExact (as.map Value.ref).toArray >>= fun v => ret v) _ _ _
  unfold Builtin.Tuple.tupleExact
  refine wpAny_bind (wpAny_newObj_type ?_ (by show (as.map Value.ref).toArray.size ≤ sizeLine; rw [List.size_toArray, List.length_map, hl]; exact hn))
  refine wpAny_pure ?_
  exact h h' tk as hk hl hG
theorem call_tuple_view {Q : Value → Shared → Prop} (hh : A.handled = none) (hv : s.heap.IsItemsView r d) (hm : s.heap.DictAt knd d kvs ep) (hn : kvs.length ≤ sizeLine)
    (hQ : ∀ (h' : Heap) (tk : Nat) (as : List Addr), (∀ b o, s.heap.get? b = some o → h'.get? b = some o) → as.length = kvs.length → PySem.W.KdxG knd kvs s.heap.objs.size h' as →
      Q (.ref h'.objs.size) { s with heap := h'.push { cls := .type "tuple", data := .seq (as.map Value.ref).toArray }, toks := tk }) :
    wpAny (model prog w) A (call (.type "tuple") [.ref r]) Q E s := by
  refine callType_codes (Q₁ := fun obj s₁ => s₁.TypeIs obj "tuple" ∧ Q obj s₁) F.called_tuple (F.typeCall_tuple_1 _) F.entry_object_init
    (code_tuple_new_view (A := A.in1) hh hv hm hn fun h' tk as hk hl hG => ⟨⟨_, Heap.get?_push_size _ rfl, rfl⟩, hQ h' tk as hk hl hG⟩) fun obj s₁ h₁ => ?_
  exact ⟨h₁.1, F.args_object_init_2 obj _, object_init_meets F.called_tuple.init.lookup F.called_tuple.made (by decide) prog w A.in1 _ s₁ ⟨h₁.1, rfl, h₁.2⟩⟩
end
section
variable {X : Cx}
def rTupView : List V → Hp → VK → Prop := fun vs H Q => ∃ (p a : Addr) (kvs : List (Key × V)), vs = [.ref p] ∧ H p = some (L2.DX.itemsO p a) ∧ H a = some (.dK kvs) ∧
  ∀ (H' : Hp) (q : Addr) (ts : List Addr), (∀ b o, H b = some o → H' b = some o) → H q = none → (∀ t ∈ ts, H t = none ∧ t ≠ q) → H' q = some (.tup (ts.map V.ref)) → Paired (fun (t : Addr) (e : Key × V) => H' t = some (.tup [kV e.1, e.2])) ts kvs → Q (.ref q) H'
theorem paired_mk {α β : Type} {F : α → β → Prop} : ∀ {xs : List α} {ys : List β}, xs.length = ys.length → (∀ (j : Nat) x y, xs[j]? = some x → ys[j]? = some y → F x y) → Paired F xs ys
  | [], [], _, _ => .nil
  | [], _ :: _, h, _ => by cases h
  | _ :: _, [], h, _ => by cases h
  | x :: xs, y :: ys, h, f => .cons (f 0 x y rfl rfl) (paired_mk (Nat.succ.inj h) fun j x y h1 h2 => f (j + 1) x y (by simpa using h1) (by simpa using h2))
theorem cr_tupView (hc : X.calm = true) : CallR X (.type "tuple") rTupView := by
  intro pins s σ H xs us Q I r h
  obtain ⟨p, a, kvs, rfl, hp, ha, q⟩ := h
  obtain rfl := Vals.ref1 r
  have view : s.heap.IsItemsView p a := (show ObjOk X.prog X.w H s.heap p (L2.DX.itemsO p a) from I.hok p _ hp).1
  obtain ⟨z, lo, vs, rel, dd⟩ := (show ObjOk X.prog X.w H s.heap a (.dK kvs) from I.hok a _ ha)
  obtain ⟨ep, hat⟩ := dd.dictAt
  have lk : kvs.length = vs.length := Paired.length rel
  refine call_tuple_view (knd := mixKind X.prog X.w) (kvs := vs) (ep := ep) (I.ok.hd hc) view hat (by rw [← lk]; exact z) fun h' tk as hk hl hG => ?_
  have I1 : Inv X pins σ H { s with heap := h', toks := tk } := I.kept hk
  have nda : as.Nodup := List.Pairwise.imp (fun h => Nat.ne_of_lt h) hG.rise
  have lss : sizeLine = 16777216 := sizeLine_eq
  obtain ⟨H2, I2, sm, tup⟩ := L2.DX.takeT (P := fun b ws => ∃ (j : Nat) (e : Key × V), as[j]? = some b ∧ kvs[j]? = some e ∧ ws = [kV e.1, e.2]) I as H I1 nda fun b hb => by
    obtain ⟨j, hj⟩ := List.mem_iff_getElem?.mp hb
    have hbl : s.heap.objs.size ≤ b := Nat.le_of_lt (hG.above b hb)
    obtain ⟨key, k, x, f1, f2, f3⟩ := hG.pairs j b hj
    obtain ⟨e, he⟩ : ∃ e, kvs[j]? = some e := by
      have : j < kvs.length := by rw [lk]; exact (List.getElem?_eq_some_iff.mp f1).1
      exact ⟨_, List.getElem?_eq_getElem this⟩
    obtain ⟨y, g1, g2, g3⟩ := LiI.paired_get rel he
    rw [f1] at g1
    cases g1
    have rk : RelV (kV e.1) key := by
      rw [g2]
      exact relV_key (show keyIs k key = true from f2)
    exact ⟨hbl, I.hok.fresh hbl, _, ⟨j, e, hj, he, rfl⟩, fun H3 => ⟨by rw [lss]; show 2 ≤ 16777216; omega, _, .cons rk (.cons g3 .nil), ⟨_, f3, rfl, 0, rfl⟩⟩⟩
  have fresh : H2 h'.objs.size = none := I2.hok.fresh (Nat.le_refl _)
  have below : ∀ b ∈ as, b ≠ h'.objs.size := fun b hb e => by
    obtain ⟨_, _, z⟩ := tup b hb
    rw [e, fresh] at z; cases z
  have I3 : Inv X pins σ (upd H2 h'.objs.size (.tup (as.map V.ref))) { s with heap := h'.push { cls := .type "tuple", data := .seq (as.map Value.ref).toArray }, toks := tk } :=
    I2.laid (t' := tk) (fun b o e => Heap.get?_push_of_some _ e) (Nat.le_refl _) (show ObjOk X.prog X.w _ _ _ (.tup (as.map V.ref)) from ⟨by rw [List.length_map, hl, ← lk]; exact z, as.map Value.ref, LiI.vals_refs as, IsTup.new _ _⟩)
  refine ⟨.ref h'.objs.size, _, I3, rfl, q _ _ as (fun b o e => ?_) ?_ (fun t ht => ⟨I.hok.fresh (Nat.le_of_lt (hG.above t ht)), below t ht⟩) upd_same (paired_mk (by rw [hl, lk]) fun j t e h1 h2 => ?_)⟩
  · have := sm b o e
    rw [upd_ne (by rintro rfl; rw [fresh] at this; cases this)]
    exact this
  · cases e : H h'.objs.size with
    | none => rfl
    | some o => rw [sm _ _ e] at fresh; cases fresh
  · have hb := List.mem_of_getElem? h1
    obtain ⟨ws, ⟨j2, e2, g1, g2, rfl⟩, e3⟩ := tup t hb
    have : j2 = j := (List.getElem?_inj (List.getElem?_eq_some_iff.mp g1).1 nda).mp (g1.trans h1.symm)
    subst this
    rw [g2] at h2; cases h2
    rw [upd_ne (below t hb)]
    exact e3
end
/-- a pair of a dict as data -/
def kvD (e : Key × D) : D := .tup [kD e.1, e.2]
def wTupIt (wo : WE) : WE := fun ρ h Q X => wo ρ h (fun x h1 => ∃ kvs, dkOf h1 x = some kvs ∧ Q (.tup (kvs.map kvD)) h1) X
section
variable {X : Cx} {E : XK} {gz : Bool} {k : Nat} {o : Expr} {wo : WE} {apos cpos pos : Pos}
theorem dk_tyV {K : PySem.W.Frag} {H : Hp} {a : Addr} {vs : List (Key × V)} (hu : H a = some (.dK vs)) : tyV K "dict" (.ref a) H := .inr (.inr (.inl ⟨rfl, .inl ⟨_, hu⟩⟩))
theorem ae_tupIt {pn : Pos} (hm : X.mg "tuple" = none) (c : Cg gz X E k) (ho : AE X E o wo) (hg : Gl X "tuple" := by rfl)
    (hbase : attributeBase o "items" X.env (eval o X.env) = eval o X.env := by rfl)
    (hline : (apos.endLine == cpos.line) = true := by rfl)
    (hst : starEach [Expr.Call (.Attribute o "items" apos) [] [] cpos] X.env = (false, eval (.Call (.Attribute o "items" apos) [] [] cpos) X.env) :: starEach [] X.env := by rfl)
    (hpl : (backTo pos (starEach [] X.env)).any (·.1) = false := by rfl) :
    AE X E (.Call (.Name "tuple" pn) [.Call (.Attribute o "items" apos) [] [] cpos] [] pos) (wTupIt wo) := by
  have P1 := pe_bm0 (cpos := cpos) (apos := apos) PySem.F.plainAttrs_dict PySem.F.slot_dict_items PySem.F.type_dict_items (mt_itemsV (X := X)) ho.run hbase hline
  have P2 := pe_callTy (pos := pos) (p := pn) (cr_tupView c.calm) hg hm bb_tuple (pa_cons P1 pa_nil hst) (he := hst) (hpl := hpl)
  refine ⟨PE.imp P2 fun σ H Q ⟨F, ρ, h, S, R, q⟩ => ?_, fun ρ h Q Q' X X' hq hx q => ho.mo _ _ _ _ _ _ (fun x h1 ⟨kvs, e1, z⟩ => ⟨kvs, e1, hq _ _ z⟩) hx q⟩
  refine ⟨F, ρ, h, S, R, ho.mo _ _ _ _ _ _ (fun x h1 z => ?_) (fun _ _ z => z) q⟩
  intro F1 H1 v e1 S1 r
  obtain ⟨kvs, ea, z⟩ := z
  obtain ⟨a, vs, rfl, hu, rs⟩ := S1.dkOf r ea
  refine ⟨dk_tyV hu, a, vs, rfl, rfl, hu, fun p hp => ?_⟩
  have na : a ≠ p := by rintro rfl; rw [hu] at hp; cases hp
  refine ⟨p, a, vs, rfl, upd_same, by rw [upd_ne na]; exact hu, fun H' l ts sm hl nl hL hT => ?_⟩
  have sm1 : ∀ b o, H1 b = some o → H' b = some o := fun b o e => sm b o (by rw [upd_ne (by rintro rfl; rw [hp] at e; cases e)]; exact e)
  have hl1 : H1 l = none := by
    by_cases c : l = p
    · rw [c]; exact hp
    · rw [upd_ne c] at hl; exact hl
  obtain ⟨F2, x2, S2, g2, g3⟩ := S1.grow sm1 (fun b => true)
  have hn : ∀ t ∈ ts, H1 t = none := fun t ht => by
    obtain ⟨n1, n2⟩ := nl t ht
    by_cases c : t = p
    · rw [c]; exact hp
    · rw [upd_ne c] at n1; exact n1
  have rsT : ∀ (ts : List Addr) (kvs : List (Key × D)) (vs : List (Key × V)), (∀ t ∈ ts, H1 t = none) → RepK X.K F1 kvs vs → Paired (fun (t : Addr) (e : Key × V) => H' t = some (.tup [kV e.1, e.2])) ts vs → Reps X.K F2 (kvs.map kvD) (ts.map V.ref) := by
    intro ts
    induction ts with
    | nil => intro kvs vs _ r pr; cases pr; cases r; exact .nil
    | cons t ts ih =>
      intro kvs vs hn r pr
      cases pr with
      | cons p1 p2 =>
        cases r with
        | cons r1 r2 => exact .cons (.tup (.of ((g2 t (hn t (List.mem_cons_self ..)) rfl).trans p1)) (.cons (kD_rep _) (.cons (r1.ext x2) .nil))) (ih _ _ (fun w hw => hn w (List.mem_cons_of_mem _ hw)) r2 p2)
  exact z F2 H' _ (e1.trans x2) S2 (.tup (.of ((g2 l hl1 rfl).trans hL)) (rsT ts kvs vs hn rs hT))
end
end DL
namespace DL
open PySem PySem.Spec L2 C8
/-! ### what a class gives, bundled -/
section
variable (P : Program) (w : World) (K : PySem.W.Frag) (mg : Str → Option Value) (base : Heap)
structure MakC (x : Str) (C : Addr) (k : Nat) (S : FSpec) : Prop where
  ex : ∃ fI, Mk K C fI ∧ FnRD P w K mg base k fI S
  mo : MoF S
  at_ : mg x = some (.ref C)
structure PrpC (C : Addr) (f : Str) (k : Nat) (S : FSpec) : Prop where
  cl : Cls K C
  ex : ∃ pa g fd ps, PropOf K C f pa g ∧ FnG false P w K mg base k g fd ps S ∧ Binds K fd ps []
structure MetC (C : Addr) (f : Str) (k : Nat) (S : FSpec) : Prop where
  cl : Cls K C
  ex : ∃ g, Meth K C f g ∧ FnRD P w K mg base k g S
  mo : MoF S
structure CalC (C : Addr) (k : Nat) (S : FSpec) : Prop where
  ex : ∃ g, StX.CallO K C g ∧ FnRD P w K mg base k g S
  mo : MoF S
structure Op2C (C : Addr) (op : Operator) (k : Nat) (S : FSpec) : Prop where
  sf : PySem.W.selfFirst K C = true
  ex : ∃ g, PySem.W.findIn K (.ref C) (PySem.dunder op.info.2) = some (some (.ref g)) ∧ PySem.W.isFn K (.ref g) = true ∧ FnRD P w K mg base k g S
  mo : MoF S
structure IxC (C : Addr) (k : Nat) (S : FSpec) : Prop where
  ex : ∃ g, PySem.W.findIn K (.ref C) "__getitem__" = some (some (.ref g)) ∧ PySem.W.fnIn K g = true ∧ PySem.W.isFn K (.ref g) = true ∧ FnRD P w K mg base k g S
  mo : MoF S
end
section
variable {X : Cx} {E : XK} {gz : Bool} {k j : Nat} {o a b e fe : Expr} {es : List Expr} {wo wa wb we : WE} {wl : WA} {pos apos p sp_ : Pos} {f x m : Str} {C : Addr} {S : FSpec} {op : Operator}
theorem ag_make (c : Cg gz X E k) (M : MakC X.prog X.w X.K X.mg X.base x C j S) (hj : j + 1 ≤ k) (ha : AA X E (e :: es) wl)
    (hg : Gl X x := by rfl) (hdb : (x == ("__debug__" : Str)) = false := by decide) (he : starEach (e :: es) X.env = (false, eval e X.env) :: starEach es X.env := by rfl)
    (hpl : (backTo pos (starEach es X.env)).any (·.1) = false := by rfl) : AE X E (.Call (.Name x p) (e :: es) [] pos) (wMake C S wl) := by
  obtain ⟨fI, h1, h2⟩ := M.ex
  exact ae_make c h1 h2 M.mo hj M.at_ ha hg hdb he hpl
theorem ag_make0 (c : Cg gz X E k) (M : MakC X.prog X.w X.K X.mg X.base x C j S) (hj : j + 1 ≤ k)
    (hg : Gl X x := by rfl) (hdb : (x == ("__debug__" : Str)) = false := by decide) : AE X E (.Call (.Name x p) [] [] pos) (wMake C S wNil) := by
  obtain ⟨fI, h1, h2⟩ := M.ex
  exact ae_make0 c h1 h2 M.mo hj M.at_ hg hdb
theorem ag_makeS (c : Cg gz X E k) (M : MakC X.prog X.w X.K X.mg X.base x C j S) (hj : j + 1 ≤ k) (he : AE X E e we)
    (hg : Gl X x := by rfl) (hdb : (x == ("__debug__" : Str)) = false := by decide) (hst : starEach [.Starred e sp_] X.env = [(true, eval e X.env)] := by rfl) : AE X E (.Call (.Name x p) [.Starred e sp_] [] pos) (wMakeS C S we) := by
  obtain ⟨fI, h1, h2⟩ := M.ex
  exact ae_makeS c h1 h2 M.mo hj M.at_ he hg hdb hst
theorem ag_prop (c : Cg gz X E k) (R : PrpC X.prog X.w X.K X.mg X.base C f j S) (hj : j + 1 ≤ k) (ho : AE X E o wo)
    (hab : attributeBase o f X.env (eval o X.env) = eval o X.env := by rfl) : AE X E (.Attribute o f pos) (wProp C S wo) := by
  obtain ⟨pa, g, fd, ps, h1, h2, h3⟩ := R.ex
  exact ae_prop c R.cl h1 h2 h3 hj ho hab
theorem ag_met {pl : Sem Bool} (c : Cg gz X E k) (R : MetC X.prog X.w X.K X.mg X.base C m j S) (hj : j ≤ k) (ho : AE X E o wo) (ha : AA X E (e :: es) wl)
    (hst : starEach (e :: es) X.env = (false, eval e X.env) :: starEach es X.env := by rfl) (hpl : (backTo pos (starEach es X.env)).any (·.1) = false := by rfl)
    (ht : eval (.Call (.Attribute o m apos) (e :: es) [] pos) X.env = (do let ov ← eval o X.env; standAt apos.atName; let (f, first) ← holding [ov] (getMethod ov m pl); callWith pos f first (backTo pos (starEach (e :: es) X.env)) (backToKw pos (keywordEach [] X.env))) := by rfl) : AE X E (.Call (.Attribute o m apos) (e :: es) [] pos) (wMet C m S wo wl) := by
  obtain ⟨g, h1, h2⟩ := R.ex
  exact ae_met (pl := pl) c R.cl h1 h2 R.mo hj ho ha hst hpl ht
theorem ag_met0 {pl : Sem Bool} (c : Cg gz X E k) (R : MetC X.prog X.w X.K X.mg X.base C m j S) (hj : j ≤ k) (ho : AE X E o wo)
    (ht : eval (.Call (.Attribute o m apos) [] [] pos) X.env = (do let ov ← eval o X.env; standAt apos.atName; let (f, first) ← holding [ov] (getMethod ov m pl); callWith pos f first (backTo pos (starEach [] X.env)) (backToKw pos (keywordEach [] X.env))) := by rfl) : AE X E (.Call (.Attribute o m apos) [] [] pos) (wMet C m S wo wNil) := by
  obtain ⟨g, h1, h2⟩ := R.ex
  exact ae_met0 (pl := pl) c R.cl h1 h2 R.mo hj ho ht
def wCalO (C : Addr) (S : FSpec) (wo : WE) (wl : WA) : WE := wCallO C S (fun ρ h Q X => wo ρ h (fun y h1 => (∃ fs, insOf h1 y = some (C, fs)) ∧ Q y h1) X) wl
theorem ag_callO (c : Cg gz X E k) (R : CalC X.prog X.w X.K X.mg X.base C j S) (hj : j ≤ k) (hf : AE X E fe wo) (ha : AA X E (e :: es) wl)
    (ht : eval (.Call fe (e :: es) [] pos) X.env = (do callWith pos (← eval fe X.env) [] (backTo pos (starEach (e :: es) X.env)) (backToKw pos (keywordEach [] X.env))) := by rfl)
    (he : starEach (e :: es) X.env = (false, eval e X.env) :: starEach es X.env := by rfl) (hpl : (backTo pos (starEach es X.env)).any (·.1) = false := by rfl) : AE X E (.Call fe (e :: es) [] pos) (wCalO C S wo wl) := by
  obtain ⟨g, h1, h2⟩ := R.ex
  exact ae_callO c h1 h2 R.mo hj hf ha (fun _ _ _ _ => trivial) ht he hpl
theorem ag_own2 (c : Cg gz X E k) (R : Op2C X.prog X.w X.K X.mg X.base C op j S) (hj : j ≤ k) (ha : AE X E a wa) (hb : AE X E b wb) : AE X E (.BinOp a op b pos) (wOp (dOwn2 C S) wa wb) := by
  obtain ⟨g, h1, h2, h3⟩ := R.ex
  exact ae_own2 c R.sf h1 h2 h3 R.mo hj ha hb
theorem ag_ixOwn (c : Cg gz X E k) (R : IxC X.prog X.w X.K X.mg X.base C j S) (hj : j + 1 ≤ k)
    (ha : AE X E a wa) (hb : AE X E b wb) (hs : ∀ v u, subscripted b true v u = runValue (.builtin "lifetime.subscript" ⟨[v, u], []⟩) := by intro _ _; rfl) : AE X E (.Subscript a b pos) (wOp (dIxOwn C S) wa wb) := by
  obtain ⟨g, h1, h2, h3, h4⟩ := R.ex
  exact ae_ixOwn c h1 h2 h3 h4 R.mo hj ha hb hs
end
/-! ### how the readings unfold -/
section
variable {ρ : EnvD} {h : AH} {Q : KD} {X : KX} {D0 : EndsD} {a b wo wv : WE} {wl wk : WA} {C : Addr} {S : FSpec} {f m : Str} {fs : List (Str × D)} {x y : D} {mm : Bool}
theorem u_prop : wProp C S wo ρ h Q X = wo ρ h (fun x h1 => isI C x h1 ∧ S [x] h1 Q (fun _ _ => False)) X := rfl
theorem u_fld : wFld C f wo ρ h Q X = wo ρ h (fun x h1 => ∃ fs d, insOf h1 x = some (C, fs) ∧ fs.lookup f = some d ∧ Q d h1) X := rfl
theorem u_setF : wSetF C f wo wv D0 ρ h = wv ρ h (fun z h1 => wo ρ h1 (fun x h2 => ∃ a fs, x = .ref a ∧ h2 a = some (.ins C fs) ∧ fs.length < 1000 ∧ D0.nx ρ (up h2 a (.ins C (putFD f z fs)))) D0.ex) D0.ex := rfl
theorem u_make : wMake C S wl ρ h Q X = wl ρ h (fun ds h1 => ∀ a, h1 a = none → S (.ref a :: ds) (up h1 a (.ins C [])) (fun v h2 => v = .non ∧ ∃ fs, h2 a = some (.ins C fs) ∧ Q (.ob C fs) (rm h2 a)) X) X := rfl
theorem u_makeS : wMakeS C S wo ρ h Q X = wo ρ h (fun y h1 => ∃ ds, seqOf h1 y = some ds ∧ ∀ a, h1 a = none → S (.ref a :: ds) (up h1 a (.ins C [])) (fun v h2 => v = .non ∧ ∃ fs, h2 a = some (.ins C fs) ∧ Q (.ob C fs) (rm h2 a)) X) X := rfl
theorem u_met : wMet C m S wo wl ρ h Q X = wo ρ h (fun x h1 => ∃ fs, insOf h1 x = some (C, fs) ∧ fs.lookup m = none ∧ wl ρ h1 (fun ds h2 => S (x :: ds) h2 Q X) X) X := rfl
theorem u_calO : wCalO C S wo wl ρ h Q X = wo ρ h (fun y h1 => (∃ fs, insOf h1 y = some (C, fs)) ∧ wl ρ h1 (fun ds h2 => (∃ fs, insOf h2 y = some (C, fs)) ∧ S (y :: ds) h2 Q X) X) X := rfl
theorem u_own2 : dOwn2 C S x y h Q = (isI C x h ∧ isI C y h ∧ S [x, y] h Q (fun _ _ => False)) := rfl
theorem u_ixOwn : dIxOwn C S x y h Q = (isI C x h ∧ S [x, y] h Q (fun _ _ => False)) := rfl
theorem u_insOb : insOf h (.ob C fs) = some (C, fs) := rfl
theorem u_isI : isI C (.ob C fs) h = True := by simp [isI, insOf]
theorem u_orT : wOrT a b ρ h Q X = a ρ h (fun x h1 => ∃ k, truD h1 x = some k ∧ if k = true then Q x h1 else b ρ h1 Q X) X := rfl
theorem u_tupIt : wTupIt wo ρ h Q X = wo ρ h (fun x h1 => ∃ kvs, dkOf h1 x = some kvs ∧ Q (.tup (kvs.map kvD)) h1) X := rfl
theorem u_dkK {kvs : List (Key × D)} : dkOf h (.dK kvs) = some kvs := rfl
theorem u_dnew : wDnew ρ h Q X = ∀ p, h p = none → Q (.ref p) (up h p (.dK [])) := rfl
theorem u_dput {wi : WE} : wDput wo wi wv D0 ρ h = wv ρ h (fun z h1 => wo ρ h1 (fun x h2 => wi ρ h2 (fun y h3 => ∃ a kvs k, x = .ref a ∧ h3 a = some (.dK kvs) ∧ keyD y = some k ∧ kvs.length < sizeLine ∧ D0.nx ρ (up h3 a (.dK (putD kvs k z)))) D0.ex) D0.ex) D0.ex := rfl
theorem u_get2 {wi wx : WE} : wGet2 wo wi wx ρ h Q X = wo ρ h (fun x h1 => (dkOf h1 x).isSome = true ∧ wi ρ h1 (fun y h2 => wx ρ h2 (fun z h3 => ∃ kvs k, dkOf h3 x = some kvs ∧ keyD y = some k ∧ Q ((valD kvs k).getD z) h3) X) X) X := rfl
theorem u_dget {wi : WE} : wDGet wo wi ρ h Q X = wo ρ h (fun x h1 => wi ρ h1 (fun y h2 => ∃ kvs k d, dkOf h2 x = some kvs ∧ keyD y = some k ∧ valD kvs k = some d ∧ Q d h2) X) X := rfl
theorem u_keyI {i : Int} : keyD (.int i) = some (Sum.inl i) := rfl
theorem u_isi {n : String} : dIsi [x, .ty n] h Q = ∃ t b, tyD h x = some t ∧ L2.kitB t n = some b ∧ Q (.bl b) h := by
  unfold dIsi
  refine propext ⟨?_, ?_⟩
  · rintro ⟨x', t, n', b, e, h1, h2, q⟩
    cases e; exact ⟨t, b, h1, h2, q⟩
  · rintro ⟨t, b, h1, h2, q⟩
    exact ⟨x, t, n, b, rfl, h1, h2, q⟩
theorem u_tupP {ds : List D} : dTupP ds h Q = ∃ x xs, ds = [x] ∧ lstOf h x = some xs ∧ Q (.tpl xs) h := rfl
theorem u_numL {l : WA} {R : List D → (AH → Prop) → AH → Prop} : iNumL l ρ h R X = iNumL l ρ h R X := rfl
theorem u_dc {m : Bool} {wi : WI} {g : WG} {tt : WT} {tk tv : WE} {vs : List Nat} : wDc m wi g tt tk tv vs ρ h Q X = wi ρ h (fun xs st h1 => ∀ p, h1 p = none → dcD st g tt tk tv vs ρ p xs (up h1 p (.dK [])) (endK m p Q)) X := rfl
theorem u_maxDd : wMaxDd wl wk ρ h Q X = wl ρ h (fun xs h1 => wk ρ h1 (fun zs h2 => ∃ (x z : D) (kvs : List (Key × D)) (ks : List Int), xs = [x] ∧ zs = [z] ∧ dkOf h2 x = some kvs ∧ kvs.map (·.1) = ks.map Sum.inl ∧ (ks = [] → Q z h2) ∧ ∀ m, m ∈ ks → (∀ y ∈ ks, y ≤ m) → Q (.int m) h2) X) X := rfl
end
end DL
namespace DL
open PySem PySem.Spec L2 C8
/-! ### lists of pairs of ints as dicts and ledgers: plain theory -/
abbrev Prs := List (Int × Int)
def getI (es : Prs) (k : Int) : Int := ((es.find? fun e => decide (e.1 = k)).map (·.2)).getD 0
def hasI (es : Prs) (k : Int) : Bool := es.any fun e => decide (e.1 = k)
def putI (es : Prs) (k v : Int) : Prs := if hasI es k then es.map (fun e => if e.1 = k then (e.1, v) else e) else es ++ [(k, v)]
def amt (es : Prs) (k : Int) : Int := (es.map fun e => if e.1 = k then e.2 else 0).sum
theorem hasI_iff {es : Prs} {k : Int} : hasI es k = true ↔ ∃ v, (k, v) ∈ es := by
  unfold hasI
  rw [List.any_eq_true]
  constructor
  · rintro ⟨e, h, c⟩
    have : e.1 = k := by simpa using c
    exact ⟨e.2, by rw [← this]; exact h⟩
  · rintro ⟨v, h⟩
    exact ⟨_, h, by simp⟩
theorem hasI_keys {es : Prs} {k : Int} : hasI es k = true ↔ k ∈ es.map (·.1) := by
  rw [hasI_iff, List.mem_map]
  exact ⟨fun ⟨v, h⟩ => ⟨_, h, rfl⟩, fun ⟨e, h, c⟩ => ⟨e.2, by rw [← c]; exact h⟩⟩
theorem keys_put {es : Prs} {k v : Int} : (putI es k v).map (·.1) = if hasI es k then es.map (·.1) else es.map (·.1) ++ [k] := by
  unfold putI
  split
  · rw [List.map_map]
    apply List.map_congr_left
    intro e _
    show (if e.1 = k then (e.1, v) else e).1 = e.1
    split <;> rfl
  · simp
theorem nodup_put {es : Prs} {k v : Int} (h : (es.map (·.1)).Nodup) : ((putI es k v).map (·.1)).Nodup := by
  rw [keys_put]
  split
  · exact h
  · rename_i c
    rw [List.nodup_append]
    refine ⟨h, by simp, fun a ha b hb e => ?_⟩
    have : b = k := by simpa using hb
    subst this
    subst e
    exact c (hasI_keys.mpr ha)
theorem len_put {es : Prs} {k v : Int} : (putI es k v).length ≤ es.length + 1 := by
  unfold putI; split <;> simp
theorem mem_put {es : Prs} {k v : Int} {f : Int × Int} (h : f ∈ putI es k v) : f ∈ es ∨ f = (k, v) := by
  unfold putI at h
  split at h
  · obtain ⟨e, he, rfl⟩ := List.mem_map.mp h
    by_cases c : e.1 = k
    · right; simp [c]
    · left; simpa [c] using he
  · rcases List.mem_append.mp h with h | h
    · exact .inl h
    · exact .inr (by simpa using h)
theorem getI_cons {e : Int × Int} {es : Prs} {k : Int} : getI (e :: es) k = if e.1 = k then e.2 else getI es k := by
  unfold getI
  rw [List.find?_cons]
  by_cases c : e.1 = k <;> simp [c]
theorem getI_no {es : Prs} {k : Int} (h : hasI es k = false) : getI es k = 0 := by
  induction es with
  | nil => rfl
  | cons e es ih =>
    have h : (decide (e.1 = k) || hasI es k) = false := h
    rw [Bool.or_eq_false_iff] at h
    rw [getI_cons, if_neg (by simpa using h.1), ih h.2]
theorem getI_mem {es : Prs} (nd : (es.map (·.1)).Nodup) {k v : Int} (h : (k, v) ∈ es) : getI es k = v := by
  induction es with
  | nil => cases h
  | cons e es ih =>
    rw [getI_cons]
    rw [List.map_cons, List.nodup_cons] at nd
    rcases List.mem_cons.mp h with rfl | h
    · simp
    · have : e.1 ≠ k := fun c => nd.1 (by rw [c]; exact List.mem_map.mpr ⟨_, h, rfl⟩)
      rw [if_neg this]; exact ih nd.2 h
theorem getI_append {es fs : Prs} {k : Int} : getI (es ++ fs) k = if hasI es k then getI es k else getI fs k := by
  induction es with
  | nil => simp [hasI]
  | cons e es ih =>
    rw [List.cons_append, getI_cons, getI_cons, ih]
    have : hasI (e :: es) k = (decide (e.1 = k) || hasI es k) := rfl
    rw [this]
    by_cases c : e.1 = k <;> simp [c]
theorem getI_put {es : Prs} {k v j : Int} : getI (putI es k v) j = if j = k then v else getI es j := by
  unfold putI
  split
  · rename_i c
    by_cases e : j = k
    · subst e
      rw [if_pos rfl]
      induction es with
      | nil => cases c
      | cons e es ih =>
        rw [List.map_cons, getI_cons]
        by_cases d : e.1 = j
        · simp [d]
        · have c : (decide (e.1 = j) || hasI es j) = true := c
          rw [if_neg d, if_neg d]
          exact ih (by simpa [d] using c)
    · rw [if_neg e]
      clear c
      induction es with
      | nil => rfl
      | cons x es ih =>
        rw [List.map_cons, getI_cons, getI_cons, ih]
        by_cases d : x.1 = k
        · rw [if_pos d]
          show (if x.1 = j then v else getI es j) = _
          rw [if_neg (fun z => e (z.symm.trans d)), if_neg (fun z => e (z.symm.trans d))]
        · rw [if_neg d]
  · rename_i c
    rw [getI_append, getI_cons]
    by_cases e : j = k
    · subst e; rw [if_pos rfl, if_neg c, if_pos rfl]
    · rw [if_neg e, if_neg (show ¬ (k, v).1 = j from fun z => e z.symm)]
      by_cases d : hasI es j = true
      · rw [if_pos d]
      · rw [if_neg d]
        exact (getI_no (es := es) (by simpa using d)).symm
theorem amt_cons {e : Int × Int} {es : Prs} {k : Int} : amt (e :: es) k = (if e.1 = k then e.2 else 0) + amt es k := by
  unfold amt; rw [List.map_cons, List.sum_cons]
theorem amt_append {es fs : Prs} {k : Int} : amt (es ++ fs) k = amt es k + amt fs k := by
  unfold amt; rw [List.map_append, List.sum_append]
theorem amt_nil {k : Int} : amt [] k = 0 := rfl
theorem amt_get {es : Prs} (nd : (es.map (·.1)).Nodup) {k : Int} : amt es k = getI es k := by
  induction es with
  | nil => rfl
  | cons e es ih =>
    rw [List.map_cons, List.nodup_cons] at nd
    rw [amt_cons, getI_cons, ih nd.2]
    split
    · rename_i c
      rw [getI_no, Int.add_zero]
      cases h : hasI es k with
      | false => rfl
      | true => exact absurd (hasI_keys.mp h) (by rw [← c]; exact nd.1)
    · exact Int.zero_add _
/-- es is the ledger of the amounts A -/
structure Led (es : Prs) (A : Int → Int) : Prop where
  pw : es.Pairwise (fun a b => a.1 < b.1)
  mem : ∀ k v, (k, v) ∈ es ↔ (v = A k ∧ v ≠ 0)
theorem pw_nodup {es : Prs} (h : es.Pairwise (fun a b => a.1 < b.1)) : (es.map (·.1)).Nodup := by
  rw [List.nodup_iff_pairwise_ne, List.pairwise_map]
  exact h.imp fun h => by omega
theorem pw_ext : ∀ {es fs : Prs}, es.Pairwise (fun a b => a.1 < b.1) → fs.Pairwise (fun a b => a.1 < b.1) → (∀ e, e ∈ es ↔ e ∈ fs) → es = fs
  | [], [], _, _, _ => rfl
  | [], f :: fs, _, _, h => absurd ((h f).mpr (List.mem_cons_self ..)) (by simp)
  | e :: es, [], _, _, h => absurd ((h e).mp (List.mem_cons_self ..)) (by simp)
  | e :: es, f :: fs, h1, h2, h => by
    rw [List.pairwise_cons] at h1 h2
    have ef : e = f := by
      rcases List.mem_cons.mp ((h e).mp (List.mem_cons_self ..)) with z | z
      · exact z
      · rcases List.mem_cons.mp ((h f).mpr (List.mem_cons_self ..)) with y | y
        · exact y.symm
        · have a1 := h2.1 e z
          have a2 := h1.1 f y
          omega
    subst ef
    rw [pw_ext h1.2 h2.2 fun x => ?_]
    have hx := h x
    rw [List.mem_cons, List.mem_cons] at hx
    constructor
    · intro m
      rcases hx.mp (.inr m) with rfl | z
      · exact absurd (h1.1 _ m) (by omega)
      · exact z
    · intro m
      rcases hx.mpr (.inr m) with rfl | z
      · exact absurd (h2.1 _ m) (by omega)
      · exact z
theorem Led.unique {es fs : Prs} {A : Int → Int} (h1 : Led es A) (h2 : Led fs A) : es = fs :=
  pw_ext h1.pw h2.pw fun ⟨k, v⟩ => by rw [h1.mem, h2.mem]
/-- a list that stands as a ledger does -/
def Std (es : Prs) : Prop := es.Pairwise (fun a b => a.1 < b.1) ∧ ∀ e ∈ es, e.2 ≠ 0
theorem Led.std {es : Prs} {A : Int → Int} (h : Led es A) : Std es := ⟨h.pw, fun e he => ((h.mem e.1 e.2).mp he).2⟩
theorem Std.led {es : Prs} (h : Std es) : Led es (amt es) := by
  have nd := pw_nodup h.1
  refine ⟨h.1, fun k v => ?_⟩
  rw [amt_get nd]
  constructor
  · intro m; exact ⟨(getI_mem nd m).symm, h.2 _ m⟩
  · rintro ⟨rfl, n⟩
    cases c : hasI es k with
    | false => exact absurd (getI_no c) n
    | true =>
      obtain ⟨v, m⟩ := hasI_iff.mp c
      rw [getI_mem nd m]; exact m
theorem Led.eqA {es : Prs} {A : Int → Int} (h : Led es A) : amt es = A := by
  funext k
  have nd := pw_nodup h.pw
  rw [amt_get nd]
  by_cases z : A k = 0
  · rw [z]
    refine getI_no ?_
    cases c : hasI es k with
    | false => rfl
    | true =>
      obtain ⟨v, m⟩ := hasI_iff.mp c
      obtain ⟨e1, e2⟩ := (h.mem _ _).mp m
      exact absurd (e1.trans z) e2
  · exact getI_mem nd ((h.mem _ _).mpr ⟨rfl, z⟩)
theorem Led.of_amt {es : Prs} {A B : Int → Int} (h : Led es A) (e : ∀ k, A k = B k) : Led es B := by
  have : A = B := funext e
  subst this; exact h
/-- the keys in order, those that count -/
def keyed (A : Int → Int) (ys : List Int) : Prs := ys.filterMap fun k => if A k ≠ 0 then some (k, A k) else none
theorem keyed_led {A : Int → Int} {ys : List Int} (pw : ys.Pairwise (· ≤ ·)) (nd : ys.Nodup) (all : ∀ k, A k ≠ 0 → k ∈ ys) : Led (keyed A ys) A := by
  have lt : ys.Pairwise (· < ·) := by
    have := List.Pairwise.and pw (List.nodup_iff_pairwise_ne.mp nd)
    exact this.imp fun ⟨a, b⟩ => by omega
  refine ⟨?_, fun k v => ?_⟩
  · unfold keyed
    rw [List.pairwise_filterMap]
    refine lt.imp ?_
    intro a b h x hx y hy
    have hx : (if A a ≠ 0 then some (a, A a) else none) = some x := hx
    have hy : (if A b ≠ 0 then some (b, A b) else none) = some y := hy
    split at hx
    · split at hy
      · cases hx; cases hy; exact h
      · cases hy
    · cases hx
  · unfold keyed
    rw [List.mem_filterMap]
    constructor
    · rintro ⟨a, m, e⟩
      split at e
      · cases e; rename_i c; exact ⟨rfl, c⟩
      · cases e
    · rintro ⟨rfl, n⟩
      exact ⟨k, all k n, by rw [if_pos n]⟩
theorem keyed_len {A : Int → Int} {ys : List Int} : (keyed A ys).length ≤ ys.length := List.length_filterMap_le ..
theorem keyed_mem {A : Int → Int} {ys : List Int} {e : Int × Int} (h : e ∈ keyed A ys) : e.1 ∈ ys := by
  unfold keyed at h
  rw [List.mem_filterMap] at h
  obtain ⟨a, m, e⟩ := h
  split at e
  · cases e; exact m
  · cases e
/-! ### the same as data -/
theorem valD_toK (es : Prs) (k : Int) : valD (toK es) (Sum.inl k) = (es.find? fun e => decide (e.1 = k)).map fun e => D.int e.2 := by
  unfold valD toK
  rw [List.find?_map]
  have : ((fun kv : Key × D => decide (kv.1 = Sum.inl k)) ∘ fun e : Int × Int => ((Sum.inl e.1 : Key), D.int e.2)) = fun e => decide (e.1 = k) := by
    funext e
    show decide ((Sum.inl e.1 : Key) = Sum.inl k) = decide (e.1 = k)
    simp
  rw [this, Option.map_map]
  rfl
theorem val_getD (es : Prs) (k : Int) : (valD (toK es) (Sum.inl k)).getD (.int 0) = .int (getI es k) := by
  rw [valD_toK]
  unfold getI
  cases es.find? fun e => decide (e.1 = k) <;> rfl
theorem val_some {es : Prs} {k : Int} (h : k ∈ es.map (·.1)) : valD (toK es) (Sum.inl k) = some (.int (getI es k)) := by
  rw [valD_toK]
  unfold getI
  cases e : es.find? fun e => decide (e.1 = k) with
  | some x => rfl
  | none =>
    obtain ⟨x, hx, rfl⟩ := List.mem_map.mp h
    have := List.find?_eq_none.mp e x hx
    simp at this
theorem putD_toK (es : Prs) (k v : Int) : putD (toK es) (Sum.inl k) (.int v) = toK (putI es k v) := by
  unfold putD putI
  have c : ((toK es).any fun kv => decide (kv.1 = (Sum.inl k : Key))) = hasI es k := by
    unfold toK hasI
    rw [List.any_map]
    congr 1
    funext e
    show decide ((Sum.inl e.1 : Key) = Sum.inl k) = decide (e.1 = k)
    simp
  rw [c]
  split
  · unfold toK
    rw [List.map_map, List.map_map]
    apply List.map_congr_left
    intro e _
    show (if (Sum.inl e.1 : Key) = Sum.inl k then ((Sum.inl e.1 : Key), D.int v) else (Sum.inl e.1, D.int e.2)) = ((Sum.inl (if e.1 = k then (e.1, v) else e).1 : Key), D.int (if e.1 = k then (e.1, v) else e).2)
    by_cases z : e.1 = k
    · rw [if_pos (by rw [z]), if_pos z]
    · rw [if_neg (by intro y; exact z (Sum.inl.inj y)), if_neg z]
  · simp [toK]
theorem toK_keys (es : Prs) : (toK es).map (·.1) = (es.map (·.1)).map Sum.inl := by
  unfold toK; rw [List.map_map, List.map_map]; rfl
theorem toK_kD (es : Prs) : (toK es).map (fun kv => kD kv.1) = (es.map (·.1)).map D.int := by
  unfold toK; rw [List.map_map, List.map_map]; rfl
theorem toK_kv (es : Prs) : (toK es).map kvD = es.map pairD := by
  unfold toK; rw [List.map_map]; rfl
theorem toK_len (es : Prs) : (toK es).length = es.length := by simp [toK]
/-- a ledger as data -/
def ledD (C : Addr) (es : Prs) : D := .ob C [("amounts", .dK (toK es))]
theorem ledD_ins {C : Addr} {es : Prs} {h : AH} : insOf h (ledD C es) = some (C, [(("amounts" : Str), D.dK (toK es))]) := rfl
theorem ledD_isI {C : Addr} {es : Prs} {h : AH} : isI C (ledD C es) h := ⟨_, rfl⟩
/-- the sum over a ledger at a capacity -/
def lenAt (es : Prs) (c : Int) : Int := (es.map fun e => e.2 * (e.1 % c)).sum
end DL
namespace DL
open PySem PySem.Spec L2 C8
/-! ### dict comprehensions over what does not change -/
def dstep (f : D → Option (Key × D)) (acc : List (Key × D)) (x : D) : List (Key × D) := match f x with
  | some e => putD acc e.1 e.2
  | none => acc
theorem dstep_len {f : D → Option (Key × D)} {acc : List (Key × D)} {x : D} : (dstep f acc x).length ≤ acc.length + 1 := by
  unfold dstep
  split
  · unfold putD; split <;> simp
  · omega
theorem dfold_len {f : D → Option (Key × D)} : ∀ (xs : List D) (acc : List (Key × D)), (xs.foldl (dstep f) acc).length ≤ acc.length + xs.length
  | [], _ => by simp
  | x :: xs, acc => by
    have h1 := dfold_len (f := f) xs (dstep f acc x)
    have h2 := dstep_len (f := f) (acc := acc) (x := x)
    simp only [List.foldl_cons, List.length_cons]
    omega
theorem dc_pure {st : AH → Prop} {g : WG} {tt : WT} {tk tv : WE} {vs : List Nat} {ρ : EnvD} {p : Addr} {xs : List D} {h : AH} {Q : AH → Prop} (f : D → Option (Key × D)) (hst : ∀ acc, st (up h p (.dK acc))) (hl : xs.length ≤ sizeLine)
    (hs : ∀ x acc (K : AH → Prop), x ∈ xs → acc.length < sizeLine → K (up h p (.dK (dstep f acc x))) → g x (wipeD ρ vs) (up h p (.dK acc)) (fun ρ2 h2 => tt ρ2 h2 (fun b h3 => if b = true then tk ρ2 h3 (fun y h4 => tv ρ2 h4 (fun z h5 => ∃ kvs k, keyD y = some k ∧ h5 p = some (.dK kvs) ∧ kvs.length < sizeLine ∧ K (up h5 p (.dK (putD kvs k z)))) (fun _ _ => False)) (fun _ _ => False) else K h3) (fun _ _ => False)) (fun _ _ => False))
    (hd : Q (up h p (.dK (xs.foldl (dstep f) [])))) : dcD st g tt tk tv vs ρ p xs (up h p (.dK [])) Q := by
  suffices H : ∀ (ys : List D) (acc : List (Key × D)), (∀ y ∈ ys, y ∈ xs) → acc.length + ys.length ≤ sizeLine → Q (up h p (.dK (ys.foldl (dstep f) acc))) → dcD st g tt tk tv vs ρ p ys (up h p (.dK acc)) Q from H xs [] (fun _ z => z) (by simpa using hl) hd
  intro ys
  induction ys with
  | nil => intro acc _ _ q; exact ⟨hst _, q⟩
  | cons y ys ih =>
    intro acc hm hl2 q
    rw [List.length_cons] at hl2
    refine ⟨hst _, hs y acc (fun h => dcD st g tt tk tv vs ρ p ys h Q) (hm y (List.mem_cons_self ..)) (by omega) (ih _ (fun z hz => hm z (List.mem_cons_of_mem _ hz)) ?_ q)⟩
    have := dstep_len (f := f) (acc := acc) (x := y)
    omega
/-- the dict of the keys that count -/
def pick0 (A : Int → Int) (x : D) : Option (Key × D) := match x with
  | .int k => if A k ≠ 0 then some (Sum.inl k, .int (A k)) else none
  | _ => none
theorem put_new {es : Prs} {k v : Int} (h : hasI es k = false) : putI es k v = es ++ [(k, v)] := by
  unfold putI; rw [h]; rfl
theorem fold_keyed (A : Int → Int) : ∀ (ys : List Int) (es : Prs), ys.Nodup → (∀ y ∈ ys, hasI es y = false) → (ys.map D.int).foldl (dstep (pick0 A)) (toK es) = toK (es ++ keyed A ys)
  | [], es, _, _ => by simp [keyed]
  | y :: ys, es, nd, hn => by
    rw [List.nodup_cons] at nd
    rw [List.map_cons, List.foldl_cons]
    by_cases c : A y ≠ 0
    · have e1 : dstep (pick0 A) (toK es) (.int y) = toK (es ++ [(y, A y)]) := by
        unfold dstep pick0
        simp only [if_pos c]
        rw [putD_toK, put_new (hn y (List.mem_cons_self ..))]
      have e2 : keyed A (y :: ys) = (y, A y) :: keyed A ys := by
        unfold keyed; rw [List.filterMap_cons, if_pos c]
      rw [e1, fold_keyed A ys _ nd.2 (fun z hz => ?_), e2]
      · simp
      · have h1 := hn z (List.mem_cons_of_mem _ hz)
        have h2 : y ≠ z := fun e => nd.1 (by rw [e]; exact hz)
        show (es ++ [(y, A y)]).any _ = false
        rw [List.any_append]
        have h1 : es.any (fun e => decide (e.1 = z)) = false := h1
        rw [h1]
        simp [h2]
    · have e1 : dstep (pick0 A) (toK es) (.int y) = toK es := by
        unfold dstep pick0
        simp only [if_neg c]
      have e2 : keyed A (y :: ys) = keyed A ys := by
        unfold keyed; rw [List.filterMap_cons, if_neg c]
      rw [e1, fold_keyed A ys _ nd.2 (fun z hz => hn z (List.mem_cons_of_mem _ hz)), e2]
theorem endKF {p : Addr} {h : AH} {kvs : List (Key × D)} {Q : KD} (hp : h p = none) (q : Q (.dK kvs) h) : endK false p Q (up h p (.dK kvs)) := ⟨kvs, up_same, by rw [if_neg (by decide), rm_up, rm_none hp]; exact q⟩
theorem ix_p0 {r : Int × Int} {h : AH} {Q : KD} : dIx (pairD r) (.int 0) h Q = Q (.int r.1) h := u_ixTd at0
theorem ix_p1 {r : Int × Int} {h : AH} {Q : KD} : dIx (pairD r) (.int 1) h Q = Q (.int r.2) h := u_ixTd at1
/-! ### the small defs -/
section
variable {ρ : EnvD} {h : AH} {Q : KD} {X : KX} {D0 : EndsD} {x : D} {t : String}
theorem tyD_in (e : tyD h x = some t) : t = "NoneType" ∨ t = "bool" ∨ t = "int" ∨ t = "str" ∨ t = "tuple" ∨ t = "list" ∨ t = "dict" := by
  unfold tyD at e
  split at e <;> first | (cases e; simp) | cases e
end
def S_isInt : FSpec := fun ds h Q _ => ∃ x t, ds = [x] ∧ tyD h x = some t ∧ Q (.bl (decide (t = "int"))) h
def wr_isInt : WS := (wRet (wAndV (wB dIsi (wCons (wVar 0) (wCons (wC (.ty "int")) wNil))) (wNotV (wB dIsi (wCons (wVar 0) (wCons (wC (.ty "bool")) wNil))))))
theorem pr_isInt : ∀ ds h Q X, S_isInt ds h Q X → wr_isInt (endsD Q X) (startD 1 ds) h := by
  rintro ds h Q X ⟨x, t, rfl, e, q⟩
  show wr_isInt (endsD Q X) [some x] h
  simp only [wr_isInt, u_asg, u_gN, u_ret, u_retN, u_skip, u_expr, u_ifs, u_c, u_op, u_neg, u_test, u_and, u_or, u_not, u_if, u_nil, u_cons, u_tup, u_lst, u_callP, u_call, u_b, u_chain, u_andV, u_addI, u_subI, u_mulI, u_divI, u_modI, u_powI, u_cmpI, u_eqI, u_eqS, u_eqB, u_abs, u_intI, u_intB, u_newT, u_newF, u_isN, u_notN, wVar, List.set_cons_zero, List.set_cons_succ, List.getElem?_cons_zero, List.getElem?_cons_succ, List.length_cons, List.length_nil, u_lc, u_for, u_r1, u_r2, u_r3, u_num, u_notV, u_yes, u_w0, u_w1]
  rcases tyD_in e with rfl | rfl | rfl | rfl | rfl | rfl | rfl
  · exact ⟨x, _, "int", false, rfl, e, rfl, fin_of q⟩
  · exact ⟨x, _, "int", true, rfl, e, rfl, x, _, "bool", true, rfl, e, rfl, fin_of q⟩
  · exact ⟨x, _, "int", true, rfl, e, rfl, x, _, "bool", false, rfl, e, rfl, fin_of q⟩
  · exact ⟨x, _, "int", false, rfl, e, rfl, fin_of q⟩
  · exact ⟨x, _, "int", false, rfl, e, rfl, fin_of q⟩
  · exact ⟨x, _, "int", false, rfl, e, rfl, fin_of q⟩
  · exact ⟨x, _, "int", false, rfl, e, rfl, fin_of q⟩
theorem len_isInt : ∀ ds h Q X, S_isInt ds h Q X → ds.length = 1 := fun _ _ _ _ ⟨_, _, e, _⟩ => by rw [e]; rfl
theorem mo_isInt : MoF S_isInt := fun _ _ _ _ _ _ hq _ ⟨a, b, e, o, q⟩ => ⟨a, b, e, o, hq _ _ q⟩
theorem ty_int {i : Int} {h : AH} : tyD h (.int i) = some "int" := rfl
def btw (x : D) (lo hi : Int) : Bool := match x with
  | .int i => decide (lo ≤ i) && decide (i ≤ hi)
  | _ => false
def S_isBtw : FSpec := fun ds h Q _ => ∃ x t lo hi, ds = [x, .int lo, .int hi] ∧ tyD h x = some t ∧ Q (.bl (btw x lo hi)) h
def wr_isBtw : WS := (wRet (wAndV (wCallP S_isInt 1 (fun ds _ => ds) (wCons (wVar 0) wNil)) (wChain (dCmpI fun i j => decide (i ≤ j)) (dCmpI fun i j => decide (i ≤ j)) (wVar 1) (wVar 0) (wVar 2))))
theorem ty_isint {h : AH} {x : D} (e : tyD h x = some "int") : ∃ i, x = .int i := by
  cases x with
  | int i => exact ⟨i, rfl⟩
  | ref a =>
    cases ea : h a with
    | none => simp [tyD, cur, ea] at e
    | some o => cases o <;> simp [tyD, cur, ea] at e
  | _ => simp [tyD, cur] at e
theorem ty_noint {h : AH} {x : D} {t : String} (e : tyD h x = some t) (n : t ≠ "int") {lo hi : Int} : btw x lo hi = false := by
  cases x with
  | int i => exact absurd (Option.some.inj e).symm n
  | _ => rfl
theorem pr_isBtw : ∀ ds h Q X, S_isBtw ds h Q X → wr_isBtw (endsD Q X) (startD 3 ds) h := by
  rintro ds h Q X ⟨x, t, lo, hi, rfl, e, q⟩
  show wr_isBtw (endsD Q X) [some x, some (.int lo), some (.int hi)] h
  simp only [wr_isBtw, u_asg, u_gN, u_ret, u_retN, u_skip, u_expr, u_ifs, u_c, u_op, u_neg, u_test, u_and, u_or, u_not, u_if, u_nil, u_cons, u_tup, u_lst, u_callP, u_call, u_b, u_chain, u_andV, u_addI, u_subI, u_mulI, u_divI, u_modI, u_powI, u_cmpI, u_eqI, u_eqS, u_eqB, u_abs, u_intI, u_intB, u_newT, u_newF, u_isN, u_notN, wVar, List.set_cons_zero, List.set_cons_succ, List.getElem?_cons_zero, List.getElem?_cons_succ, List.length_cons, List.length_nil, u_lc, u_for, u_r1, u_r2, u_r3, u_num, u_notV, u_yes, u_w0, u_w1]
  refine ⟨trivial, x, t, rfl, e, ?_⟩
  by_cases c : t = "int"
  · subst c
    obtain ⟨i, rfl⟩ := ty_isint e
    have q : Q (.bl (decide (lo ≤ i) && decide (i ≤ hi))) h := q
    simp only [decide_true, if_true, u_cmpI]
    by_cases d : lo ≤ i
    · rw [decide_eq_true d] at q ⊢
      exact fin_of q
    · rw [decide_eq_false d] at q ⊢
      exact fin_of q
  · rw [ty_noint e c] at q
    simp only [decide_eq_false c]
    exact fin_of q
theorem len_isBtw : ∀ ds h Q X, S_isBtw ds h Q X → ds.length = 3 := fun _ _ _ _ ⟨_, _, _, _, e, _⟩ => by rw [e]; rfl
theorem mo_isBtw : MoF S_isBtw := fun _ _ _ _ _ _ hq _ ⟨a, b, c, d, e, o, q⟩ => ⟨a, b, c, d, e, o, hq _ _ q⟩
def S_needCap : FSpec := fun ds h Q _ => ∃ c : Int, ds = [.int c] ∧ 1 ≤ c ∧ c ≤ 10 ^ 30 ∧ Q .non h
def wr_needCap : WS := (wIfS (wNot (wTest (wCallP S_isBtw 3 (fun ds _ => ds) (wCons (wVar 0) (wCons (wC (.int 1)) (wCons (wC (.int 1000000000000000000000000000000)) wNil)))))) wNever wSkip)
theorem pr_needCap : ∀ ds h Q X, S_needCap ds h Q X → wr_needCap (endsD Q X) (startD 1 ds) h := by
  rintro ds h Q X ⟨c, rfl, c1, c2, q⟩
  show wr_needCap (endsD Q X) [some (.int c)] h
  simp only [wr_needCap, u_asg, u_gN, u_ret, u_retN, u_skip, u_expr, u_ifs, u_c, u_op, u_neg, u_test, u_and, u_or, u_not, u_if, u_nil, u_cons, u_tup, u_lst, u_callP, u_call, u_b, u_chain, u_andV, u_addI, u_subI, u_mulI, u_divI, u_modI, u_powI, u_cmpI, u_eqI, u_eqS, u_eqB, u_abs, u_intI, u_intB, u_newT, u_newF, u_isN, u_notN, wVar, List.set_cons_zero, List.set_cons_succ, List.getElem?_cons_zero, List.getElem?_cons_succ, List.length_cons, List.length_nil, u_lc, u_for, u_r1, u_r2, u_r3, u_num, u_notV, u_yes, u_w0, u_w1]
  refine ⟨trivial, _, _, _, _, rfl, ty_int, ?_⟩
  have : btw (.int c) 1 1000000000000000000000000000000 = true := by
    show (decide (1 ≤ c) && decide (c ≤ 1000000000000000000000000000000)) = true
    rw [decide_eq_true c1, decide_eq_true (by omega)]; rfl
  rw [this]
  exact fin_of q
theorem len_needCap : ∀ ds h Q X, S_needCap ds h Q X → ds.length = 1 := fun _ _ _ _ ⟨_, e, _⟩ => by rw [e]; rfl
theorem mo_needCap : MoF S_needCap := fun _ _ _ _ _ _ hq _ ⟨a, e, o, o2, q⟩ => ⟨a, e, o, o2, hq _ _ q⟩
def S_isRow : FSpec := fun ds h Q _ => ∃ r : Int × Int, ds = [pairD r] ∧ Q (.bl (decide (0 ≤ r.1) && decide (r.1 ≤ 1000000))) h
def wr_isRow : WS := (wSeq (wIfS (wOr (wNot (wTest (wB dIsi (wCons (wVar 0) (wCons (wC (.ty "tuple")) wNil))))) (wTest (wOp (dEq fun b => !b) (wB dLen (wCons (wVar 0) wNil)) (wC (.int 2))))) (wRet (wC (.bl false))) wSkip)
  (wRet (wAndV (wCallP S_isBtw 3 (fun ds _ => ds) (wCons (wOp dIx (wVar 0) (wC (.int 0))) (wCons (wC (.int 0)) (wCons (wC (.int 1000000)) wNil)))) (wCallP S_isInt 1 (fun ds _ => ds) (wCons (wOp dIx (wVar 0) (wC (.int 1))) wNil)))))
theorem pr_isRow : ∀ ds h Q X, S_isRow ds h Q X → wr_isRow (endsD Q X) (startD 1 ds) h := by
  rintro ds h Q X ⟨r, rfl, q⟩
  show wr_isRow (endsD Q X) [some (pairD r)] h
  unfold wr_isRow
  rw [u_seq]
  simp only [u_asg, u_gN, u_ret, u_retN, u_skip, u_expr, u_ifs, u_c, u_op, u_neg, u_test, u_and, u_or, u_not, u_if, u_nil, u_cons, u_tup, u_lst, u_callP, u_call, u_b, u_chain, u_andV, u_addI, u_subI, u_mulI, u_divI, u_modI, u_powI, u_cmpI, u_eqI, u_eqS, u_eqB, u_abs, u_intI, u_intB, u_newT, u_newF, u_isN, u_notN, wVar, List.set_cons_zero, List.set_cons_succ, List.getElem?_cons_zero, List.getElem?_cons_succ, List.length_cons, List.length_nil, u_lc, u_for, u_r1, u_r2, u_r3, u_num, u_notV, u_yes, u_w0, u_w1]
  refine ⟨_, _, "tuple", _, rfl, rfl, rfl, ?_⟩
  refine ⟨2, rfl, ?_⟩
  simp only [u_asg, u_gN, u_ret, u_retN, u_skip, u_expr, u_ifs, u_c, u_op, u_neg, u_test, u_and, u_or, u_not, u_if, u_nil, u_cons, u_tup, u_lst, u_callP, u_call, u_b, u_chain, u_andV, u_addI, u_subI, u_mulI, u_divI, u_modI, u_powI, u_cmpI, u_eqI, u_eqS, u_eqB, u_abs, u_intI, u_intB, u_newT, u_newF, u_isN, u_notN, wVar, List.set_cons_zero, List.set_cons_succ, List.getElem?_cons_zero, List.getElem?_cons_succ, List.length_cons, List.length_nil, u_lc, u_for, u_r1, u_r2, u_r3, u_num, u_notV, u_yes, u_w0, u_w1, ix_p0, ix_p1]
  refine ⟨trivial, _, _, _, _, rfl, ty_int, ?_⟩
  show (if (btw (.int r.1) 0 1000000) = true then _ else _)
  have e : btw (.int r.1) 0 1000000 = (decide (0 ≤ r.1) && decide (r.1 ≤ 1000000)) := rfl
  rw [e]
  by_cases c : (decide (0 ≤ r.1) && decide (r.1 ≤ 1000000)) = true
  · rw [if_pos c]
    rw [c] at q
    exact ⟨trivial, _, _, rfl, ty_int, fin_of q⟩
  · rw [if_neg c]
    rw [eq_false_of_ne_true c] at q
    exact fin_of q
theorem len_isRow : ∀ ds h Q X, S_isRow ds h Q X → ds.length = 1 := fun _ _ _ _ ⟨_, e, _⟩ => by rw [e]; rfl
theorem mo_isRow : MoF S_isRow := fun _ _ _ _ _ _ hq _ ⟨a, e, q⟩ => ⟨a, e, hq _ _ q⟩
end DL
namespace DL
open PySem PySem.Spec L2 C8
section
variable {X : Cx} {E : XK} {tg l : Expr} {wa : WE}
/-- a list or a tuple, walked -/
def iAny (wa : WE) : WI := fun ρ h R X => wa ρ h (fun x h1 => match x with
  | .tup xs => R xs (fun _ => True) h1
  | .tpl xs => R xs (fun _ => True) h1
  | .lst xs => R xs (fun _ => True) h1
  | .ref a => ∃ xs, h1 a = some (.lst xs) ∧ R xs (fun h => h a = some (.lst xs)) h1
  | _ => False) X
def vAny (K : PySem.W.Frag) (tl : TE) : TI := fun σ H R => tl σ H fun x H1 => (∃ a, x = .ref a ∧ (∃ xs, SqL K H1 a xs) ∧ R (Itl K a) H1) ∨ ∃ a, x = .ref a ∧ (∃ xs, SqT K H1 a xs) ∧ R (Itt K a) H1
theorem pi_any {tl : TE} (hl : PE X l tl) : PI X tg l (vAny X.K tl) := by
  refine ⟨fun pins s σ H R I h => thn (hl.run pins s σ H _ I h) fun v s1 ⟨x, H1, I1, r1, q1⟩ => ?_⟩
  have fp : ∀ b ∈ [s1.heap.objs.size], _ := fun b hb => (List.mem_singleton.mp hb) ▸ I1.fpOk (Nat.le_refl _) (I1.hok.fresh (Nat.le_refl _))
  rcases q1 with ⟨a, rfl, ⟨xs, hq⟩, q⟩ | ⟨a, rfl, ⟨xs, hq⟩, q⟩
  · cases r1
    obtain ⟨its, rv, p, hz⟩ := I1.list hq
    exact wpAny_pyIter_list p.isList ⟨s1.heap.objs.size, [s1.heap.objs.size], _, _, H1, rfl, I1.kept (t' := s1.toks) fun b o e => Heap.get?_push_of_some _ e, turn_list a _, ⟨_, Heap.get?_push_size _ rfl, rfl, rfl⟩, fp, q⟩
  · cases r1
    obtain ⟨its, rv, p, hz⟩ := I1.tuple hq
    exact wpAny_pyIter_tuple (show s1.heap.IsTuple a its.toArray from p) ⟨s1.heap.objs.size, [s1.heap.objs.size], _, _, H1, rfl, I1.kept (t' := s1.toks) fun b o e => Heap.get?_push_of_some _ e, turn_tuple a _, ⟨_, Heap.get?_push_size _ rfl, rfl, rfl⟩, fp, q⟩
theorem ai_any (hl : AE X E l wa) : AI X E tg l (iAny wa) := by
  refine ⟨PI.imp (pi_any hl.run) fun σ H R ⟨F, ρ, g, S, Rr, q⟩ => ?_, fun ρ h Q Q' X X' hq hx q => hl.mo _ _ _ _ _ _ (fun x h1 z => ?_) hx q⟩
  · refine ⟨F, ρ, g, S, Rr, hl.mo _ _ _ _ _ _ (fun x h1 z => ?_) (fun _ _ z => z) q⟩
    intro F1 H1 v e1 S1 r
    split at z
    · cases r with
      | @tup a xs vs hf rs => exact .inr ⟨a, rfl, ⟨vs, sqt_of S1.fz hf⟩, z F1 H1 _ e1 S1 (ItD.tup hf rs)⟩
    · cases r with
      | @tpl a ob xs vs hf hd rs => exact .inr ⟨a, rfl, ⟨vs, sqt_of S1.fz (.inl (.inr ⟨_, hf⟩))⟩, z F1 H1 _ e1 S1 (ItD.tup (.inl (.inr ⟨_, hf⟩)) rs)⟩
    · cases r with
      | @lst a xs vs hf rs => exact .inl ⟨a, rfl, ⟨vs, .of (S1.fz _ _ hf)⟩, z F1 H1 _ e1 S1 (ItD.list fun {F' h0 H0} e S _ => ⟨vs, .of (S.fz _ _ (e _ _ hf)), rs.ext e⟩)⟩
    · rename_i a
      obtain ⟨xs, hx, z⟩ := z
      cases r
      obtain ⟨_, u, hu, vs, rfl, rs⟩ := S1.ob _ _ hx
      refine .inl ⟨a, rfl, ⟨vs, .of hu⟩, z F1 H1 _ e1 S1 (ItD.list fun {F' h0 H0} e S st => ?_)⟩
      obtain ⟨_, u', hu', vs', rfl, rs'⟩ := S.ob _ _ st
      exact ⟨vs', .of hu', rs'⟩
    · exact z.elim
  · split at z
    · exact hq _ _ _ z
    · exact hq _ _ _ z
    · exact hq _ _ _ z
    · obtain ⟨xs, hx, z⟩ := z
      exact ⟨xs, hx, hq _ _ _ z⟩
    · exact z.elim
theorem u_any {a : WE} {ρ : EnvD} {h : AH} {X : KX} {R : List D → (AH → Prop) → AH → Prop} : iAny a ρ h R X = a ρ h (fun x h1 => match x with
  | .tup xs => R xs (fun _ => True) h1
  | .tpl xs => R xs (fun _ => True) h1
  | .lst xs => R xs (fun _ => True) h1
  | .ref a => ∃ xs, h1 a = some (.lst xs) ∧ R xs (fun h => h a = some (.lst xs)) h1
  | _ => False) X := rfl
/-- a sequence that does not change -/
def IsS (d : D) (xs : List D) : Prop := d = .tup xs ∨ d = .tpl xs ∨ d = .lst xs
theorem IsS.iter {d : D} {xs : List D} (t : IsS d xs) {ρ : EnvD} {h : AH} {X : KX} {i : Nat} {R : List D → (AH → Prop) → AH → Prop} (e : ρ[i]? = some (some d)) (k : R xs (fun _ => True) h) : iAny (wVar i) ρ h R X := by
  rw [u_any, u_var e]
  rcases t with rfl | rfl | rfl <;> exact k
end
/-! ### isinstance of an own class -/
structure IsiC (K : PySem.W.Frag) (C : Addr) : Prop where
  cl : Cls K C
  ha : PySem.W.findIn K (.ref C) "__class__" = some (some (.builtin "object.__class__"))
  hn : PySem.W.specialIn K (.builtin "object.__class__") "__get__" = some (some (.builtin "getset_descriptor.__get__"))
  ht : PySem.W.takesIn K (.builtin "object.__class__") = some true
  hm : PySem.W.mroIn K C (.type "object") = some true
theorem cst_ref {K : PySem.W.Frag} {mg : Str → Option Value} {x : Str} {C : Addr} (h : mg x = some (.ref C)) : Cst K mg x (.ref C) := ⟨⟨.ref C, _, h, rfl, fun _ => .ref C⟩⟩
section
variable {X : Cx}
def dIsiO (C : Addr) (ds : List D) (h : AH) (Q : KD) : Prop := ∃ x, ds = [x, .ref C] ∧ isI C x h ∧ Q (.bl true) h
theorem dIsiO_ok {C : Addr} (c : IsiC X.K C) : CaD X (.builtin "isinstance") (dIsiO C) where
  ex := ⟨_, call_isi, fun {F h H ds vs Q} S r q => by
    obtain ⟨x, rfl, ⟨fs, ei⟩, q⟩ := q
    obtain ⟨v, w, rfl, r1, r2⟩ := r.two
    cases r2
    obtain ⟨a, dx, us, rfl, ha, _⟩ := S.insOf r1 ei
    exact ⟨_, _, .ref C, .ref C, true, rfl, .own C, .base (.ins ha c.cl c.ha c.hn c.ht c.hm), by unfold PySem.W.kitOne; rw [if_pos (by simp)], q.at S (.bl _)⟩⟩
  mo := fun {ds h Q Q'} hq ⟨x, e, i, q⟩ => ⟨x, e, i, hq _ _ q⟩
end
end DL
namespace DL
open PySem PySem.Spec L2 C8
theorem cut_from {α : Type} (xs : List α) (n : Nat) : cutD xs (some (n : Int)) none = xs.drop n := by
  unfold cutD
  have e0 : HT.sIx xs.length xs.length none = xs.length := rfl
  rw [e0, HT.sIx_nat]
  by_cases h : n ≤ xs.length
  · rw [Nat.min_eq_left h]
    exact List.take_of_length_le (by rw [List.length_drop]; exact Nat.le_refl _)
  · rw [Nat.min_eq_right (by omega)]
    simp
    omega
end DL
namespace L2
open PySem PySem.Spec PyProof.Rows
mutual
/-- a pattern of texts: none takes all -/
inductive PatOk : Pattern → Option (List Str) → Prop
  | val {w : Str} {j p q} : PatOk (.MatchValue (.Constant (.str w) j p) q) (some [w])
  | or {ps : List Pattern} {ws : List Str} {q} (h : PatsOk ps ws) : PatOk (.MatchOr ps q) (some ws)
  | any {q} : PatOk (.MatchAs none none q) none
inductive PatsOk : List Pattern → List Str → Prop
  | nil : PatsOk [] []
  | cons {w : Str} {j p q} {ps : List Pattern} {ws : List Str} (h : PatsOk ps ws) : PatsOk (.MatchValue (.Constant (.str w) j p) q :: ps) (w :: ws)
end
def takesW : Option (List Str) → Str → Bool
  | none, _ => true
  | some ws, x => ws.any fun w => decide (x = w)
section
variable {X : Cx} {pins : List (Addr × Obj)} {σ : St} {H : Hp} {s : Shared} {x : Str} {t : Tok}
theorem pat_val {w : Str} {j p q} (I : Inv X pins σ H s) : wpAny (model X.prog X.w) X.A (matchPattern (.MatchValue (.Constant (.str w) j p) q) X.env (.str x t)) (fun r s' => Inv X pins σ H s' ∧ r = if decide (x = w) = true then some [] else none) X.xe s := by
  refine wpAny_matchPattern_Value (thn ((pe_str (x := w) (j := j) (pos := p)).run pins s σ H (fun v H1 => v = .str w ∧ H1 = H) I ⟨rfl, rfl⟩) fun u s1 ⟨v, H1, I1, r1, e1, e2⟩ => ?_)
  subst e1 e2
  obtain ⟨t', rfl⟩ := (show ∃ t', u = Value.str w t' from r1)
  refine eq_str (wpAny_truthy_bool ?_)
  have e : (x == w) = decide (x = w) := by
    rw [← dec_str]
    by_cases c : x = w
    · subst c; simp
    · rw [decide_eq_false c]; exact decide_eq_false fun z => c (V.str.inj z)
  show (if (x == w) = true then _ else _)
  rw [e]
  by_cases c : x = w
  · rw [if_pos (decide_eq_true c)]; exact ⟨I1, (if_pos (decide_eq_true c)).symm⟩
  · rw [if_neg (by rw [decide_eq_false c]; decide)]; exact ⟨I1, (if_neg (by rw [decide_eq_false c]; decide)).symm⟩
theorem pats_ok : ∀ {ps : List Pattern} {ws : List Str}, PatsOk ps ws → ∀ {s : Shared}, Inv X pins σ H s → wpAny (model X.prog X.w) X.A (matchFirst ps X.env (.str x t)) (fun r s' => Inv X pins σ H s' ∧ r = if (ws.any fun w => decide (x = w)) = true then some [] else none) X.xe s
  | [], _, .nil, s, I => wpAny_matchFirst_nil ⟨I, rfl⟩
  | _ :: ps, _, @PatsOk.cons w j p q _ ws h, s, I => by
    refine wpAny_matchFirst_cons (thn (pat_val I) fun r s1 ⟨I1, e⟩ => ?_)
    by_cases c : x = w
    · rw [if_pos (decide_eq_true c)] at e
      subst e
      refine ⟨I1, ?_⟩
      rw [List.any_cons, decide_eq_true c]; rfl
    · rw [if_neg (by rw [decide_eq_false c]; decide)] at e
      subst e
      rw [List.any_cons, decide_eq_false c, Bool.false_or]
      exact pats_ok h I1
theorem names_nil {ps : List Pattern} {ws : List Str} (h : PatsOk ps ws) : namesOfAll (ps.take 1) = [] := by
  cases h with
  | nil => rfl
  | cons _ => rfl
theorem pat_ok {p : Pattern} {o : Option (List Str)} (h : PatOk p o) (I : Inv X pins σ H s) : wpAny (model X.prog X.w) X.A (matchPattern p X.env (.str x t)) (fun r s' => Inv X pins σ H s' ∧ r = if takesW o x = true then some [] else none) X.xe s := by
  cases h with
  | val =>
    refine thn (pat_val I) fun r s1 ⟨I1, e⟩ => ⟨I1, ?_⟩
    rw [e]; simp [takesW]
  | or h =>
    refine wpAny_matchPattern_Or (thn (pats_ok h I) fun r s1 ⟨I1, e⟩ => ?_)
    subst e
    rw [names_nil h]
    unfold takesW
    split
    · rename_i c
      split at c
      · cases c
      · rename_i c2; exact ⟨I1, (if_neg c2).symm⟩
    · rename_i c
      split at c
      · rename_i c2; exact ⟨I1, (if_pos c2).symm⟩
      · cases c
  | any => exact wpAny_matchPattern_Capture ⟨I, rfl⟩
end
def pickT : List (Option (List Str) × TS) → Str → TS
  | [], _ => fun D σ H => D.nx σ H
  | (o, t) :: r, w => fun D σ H => if takesW o w = true then t D σ H else pickT r w D σ H
inductive CasesOk (X : Cx) : List MatchCase → List (Option (List Str) × TS) → Prop
  | nil : CasesOk X [] []
  | cons {p : Pattern} {o : Option (List Str)} {body : List Stmt} {t : TS} {rest : List MatchCase} {l : List (Option (List Str) × TS)} (hp : PatOk p o) (hb : PSs X body t) (r : CasesOk X rest l) : CasesOk X (⟨p, none, body⟩ :: rest) ((o, t) :: l)
theorem ps_match {X : Cx} {e : Expr} {cases_ : List MatchCase} {l : List (Option (List Str) × TS)} {te : TE} {pos : Pos} (he : PE X e te) (hc : CasesOk X cases_ l) :
    PS X (.Match e cases_ pos) (fun D σ H => te σ H fun v H1 => ∃ w, v = .str w ∧ pickT l w D σ H1) := by
  refine ⟨fun pins s σ H D I h => wpAny_Match (thn (he.run pins s σ H _ I h) fun u s1 ⟨v, H1, I1, r1, w, ev, q⟩ => ?_)⟩
  subst ev
  obtain ⟨t, rfl⟩ := (show ∃ t, u = Value.str w t from r1)
  clear h
  have go : ∀ {cs : List MatchCase} {l : List (Option (List Str) × TS)}, CasesOk X cs l → ∀ (first : Bool) (s1 : Shared), Inv X pins σ H1 s1 → pickT l w D σ H1 → wpAny (model X.prog X.w) X.A (matchCases cs X.env (.str w t) first) (SP X pins D) X.xe s1 := by
    intro cs l hc
    induction hc with
    | nil => intro first s1 I1 q; exact wpAny_matchCases_nil ⟨σ, H1, I1, q⟩
    | @cons p o body tb rest l hp hb r ih =>
      intro first s1 I1 q
      refine wpAny_matchCases_cons (thn (pat_ok hp I1) fun r s2 ⟨I2, e⟩ => ?_)
      subst e
      unfold pickT at q
      by_cases c : takesW o w = true
      · rw [if_pos c] at q
        rw [if_pos c]
        exact wpAny_assignInOrder_none (hb.run pins s2 σ H1 D I2 q)
      · rw [if_neg c] at q
        rw [if_neg c]
        exact ih false s2 I2 q
  exact go hc true s1 I1 q
end L2
namespace DL
open PySem PySem.Spec L2
/-- the cases of a match over a text -/
def pickM : List (Option (List Str) × WS) → Str → WS
  | [], _ => wSkip
  | (o, s) :: r, w => fun D ρ h => if takesW o w = true then s D ρ h else pickM r w D ρ h
def wMatch (we : WE) (l : List (Option (List Str) × WS)) : WS := fun D ρ h => we ρ h (fun x h1 => ∃ w, x = .str w ∧ pickM l w D ρ h1) D.ex
section
variable {X : Cx} {E : XK} {e : Expr} {we : WE} {pos : Pos}
inductive ACs (X : Cx) (E : XK) : List MatchCase → List (Option (List Str) × WS) → Prop
  | nil : ACs X E [] []
  | cons {p : Pattern} {o : Option (List Str)} {body : List Stmt} {t : WS} {rest : List MatchCase} {l : List (Option (List Str) × WS)} (hp : PatOk p o) (hb : ASs X E body t) (r : ACs X E rest l) : ACs X E (⟨p, none, body⟩ :: rest) ((o, t) :: l)
theorem ACs.cs {cs : List MatchCase} {l : List (Option (List Str) × WS)} (h : ACs X E cs l) : CasesOk X cs (l.map fun x => (x.1, tS X.K E x.2)) := by
  induction h with
  | nil => exact .nil
  | cons hp hb r ih => exact .cons hp hb.run ih
theorem ACs.mo {cs : List MatchCase} {l : List (Option (List Str) × WS)} (h : ACs X E cs l) : ∀ w, MoS (pickM l w) := by
  induction h with
  | nil => intro w D D' ρ h l q; exact l.nx _ _ q
  | @cons p o body t rest l hp hb r ih =>
    intro w D D' ρ h le q
    unfold pickM at q ⊢
    by_cases c : takesW o w = true
    · rw [if_pos c] at q ⊢; exact hb.mo _ _ _ _ le q
    · rw [if_neg c] at q ⊢; exact ih w _ _ _ _ le q
theorem pick_to {cs : List MatchCase} {l : List (Option (List Str) × WS)} (hc : ACs X E cs l) {w : Str} {D : Ends} {F1 H1 : Hp} {σ : L2.St} {ρ : EnvD} {h1 : AH} (S1 : Sim X.K F1 h1 H1) (R1 : EnvR X.K F1 ρ σ) : pickM l w (LD X.K F1 D E) ρ h1 → pickT (l.map fun x => (x.1, tS X.K E x.2)) w D σ H1 := by
  induction hc with
  | nil => intro z; exact z F1 H1 σ (.refl F1) S1 R1
  | @cons p o body t rest l hp hb r ih =>
    intro z
    simp only [List.map_cons]
    unfold pickT
    unfold pickM at z
    by_cases c : takesW o w = true
    · rw [if_pos c] at z ⊢
      exact ⟨F1, ρ, h1, S1, R1, z⟩
    · rw [if_neg c] at z ⊢
      exact ih z
theorem as_match {cs : List MatchCase} {l : List (Option (List Str) × WS)} (he : AE X E e we) (hc : ACs X E cs l) : AS X E (.Match e cs pos) (wMatch we l) := by
  refine ⟨PS.imp (ps_match he.run hc.cs) fun D σ H ⟨F, ρ, h, S, R, q⟩ => ?_, fun D D' ρ h le q => he.mo _ _ _ _ _ _ (fun x h1 ⟨w, e, q⟩ => ⟨w, e, hc.mo w _ _ _ _ le q⟩) le.ex q⟩
  refine ⟨F, ρ, h, S, R, he.mo _ _ _ _ _ _ (fun x h1 z => ?_) (fun _ _ z => z) q⟩
  intro F1 H1 v e1 S1 r
  obtain ⟨w, rfl, z⟩ := z
  cases r
  refine ⟨w, rfl, ?_⟩
  exact pick_to hc S1 (R.ext e1) (hc.mo w _ _ _ _ (LD.ext e1) z)
end
theorem u_match {we : WE} {l : List (Option (List Str) × WS)} {D0 : EndsD} {ρ : EnvD} {h : AH} : wMatch we l D0 ρ h = we ρ h (fun x h1 => ∃ w, x = .str w ∧ pickM l w D0 ρ h1) D0.ex := rfl
end DL
namespace DL
open PySem PySem.Spec L2 C8
/-! ### two ways to read one thing (an instance of one class or of another) -/
def wOrE (a b : WE) : WE := fun ρ h Q X => a ρ h Q X ∨ b ρ h Q X
def wOrS (a b : WS) : WS := fun D ρ h => a D ρ h ∨ b D ρ h
section
variable {X : Cx} {E : XK} {e : Expr} {st : Stmt} {a b : WE} {s1 s2 : WS}
theorem AE.or (h1 : AE X E e a) (h2 : AE X E e b) : AE X E e (wOrE a b) := by
  refine ⟨⟨fun pins s σ H Q I h => ?_⟩, fun ρ h Q Q' X X' hq hx q => q.elim (fun q => .inl (h1.mo _ _ _ _ _ _ hq hx q)) (fun q => .inr (h2.mo _ _ _ _ _ _ hq hx q))⟩
  obtain ⟨F, ρ, g, S, R, q⟩ := h
  rcases q with q | q
  · exact h1.run.run pins s σ H Q I ⟨F, ρ, g, S, R, q⟩
  · exact h2.run.run pins s σ H Q I ⟨F, ρ, g, S, R, q⟩
theorem AS.or (h1 : AS X E st s1) (h2 : AS X E st s2) : AS X E st (wOrS s1 s2) := by
  refine ⟨⟨fun pins s σ H D I h => ?_⟩, fun D D' ρ h l q => q.elim (fun q => .inl (h1.mo _ _ _ _ l q)) (fun q => .inr (h2.mo _ _ _ _ l q))⟩
  obtain ⟨F, ρ, g, S, R, q⟩ := h
  rcases q with q | q
  · exact h1.run.run pins s σ H D I ⟨F, ρ, g, S, R, q⟩
  · exact h2.run.run pins s σ H D I ⟨F, ρ, g, S, R, q⟩
end
/-! ### starred parts -/
/-- *e, .. -/
def wStar (we : WE) (wl : WA) : WA := fun ρ h Q X => we ρ h (fun x h1 => ∃ xs, seqOf h1 x = some xs ∧ wl ρ h1 (fun ys h2 => Q (xs ++ ys) h2) X) X
section
variable {X : Cx} {E : XK} {gz : Bool} {k j i : Nat} {o e value : Expr} {es : List Expr} {we wo wv : WE} {wl : WA} {pos apos p sp_ pos' tpos : Pos} {f m x : Str} {C g : Addr} {S : FSpec}
theorem aa_star (he : AE X E e we) (hr : AA X E es wl) (hs : starEach (.Starred e p :: es) X.env = (true, eval e X.env) :: starEach es X.env := by rfl) : AA X E (.Starred e p :: es) (wStar we wl) := by
  refine ⟨PA.imp (StX.pa_star he.run hr.run hs) fun σ H Q ⟨F, ρ, g, S, R, q⟩ => ?_, fun ρ h Q Q' X X' hq hx q => he.mo _ _ _ _ _ _ (fun x h1 ⟨xs, e, z⟩ => ⟨xs, e, hr.mo _ _ _ _ _ _ (fun ys h2 z => hq _ _ z) hx z⟩) hx q⟩
  refine ⟨F, ρ, g, S, R, he.mo _ _ _ _ _ _ (fun x h1 z => ?_) (fun _ _ z => z) q⟩
  intro F1 H1 vx e1 S1 rx
  obtain ⟨xs, ex, z⟩ := z
  obtain ⟨a, vs, rfl, hs, rs⟩ := S1.seqOf rx ex
  refine ⟨a, vs, rfl, hs.symm, F1, ρ, h1, S1, R.ext e1, hr.mo _ _ _ _ _ _ (fun ys h2 z => ?_) (fun _ _ z => LX.ext e1 z) z⟩
  intro F2 H2 ws e2 S2 rw'
  exact z F2 H2 _ (e1.trans e2) S2 ((rs.ext e2).append rw')
/-! ### class constants -/
structure ConD (K : PySem.W.Frag) (C : Addr) (f : Str) (d : D) : Prop where
  ex : ∃ v u, Con K C f v u ∧ ∀ F, Rep K F d v
/-- e.f, a constant of the class C, through an instance -/
def wCon (C : Addr) (f : Str) (d : D) (wo : WE) : WE := fun ρ h Q X => wo ρ h (fun x h1 => ∃ fs, insOf h1 x = some (C, fs) ∧ fs.lookup f = none ∧ Q d h1) X
theorem ae_con {d : D} (c : Cls X.K C) (n : ConD X.K C f d) (ho : AE X E o wo) (hb : attributeBase o f X.env (eval o X.env) = eval o X.env := by rfl) : AE X E (.Attribute o f pos) (wCon C f d wo) := by
  obtain ⟨v, u, cn, rv⟩ := n.ex
  refine ⟨PE.imp (pe_con ho.run hb) fun σ H Q ⟨F, ρ, h, S, R, q⟩ => ?_, fun ρ h Q Q' X X' hq hx q => ho.mo _ _ _ _ _ _ (fun x h1 ⟨fs, e1, e2, z⟩ => ⟨fs, e1, e2, hq _ _ z⟩) hx q⟩
  refine ⟨F, ρ, h, S, R, ho.mo _ _ _ _ _ _ (fun x h1 z => ?_) (fun _ _ z => z) q⟩
  intro F1 H1 w e1 S1 r
  obtain ⟨fs, ei, el, z⟩ := z
  obtain ⟨a, dx, vs, rfl, ha, rs⟩ := S1.insOf r ei
  exact ⟨a, C, dx, vs, v, u, rfl, ha, c, cn, rs.no el, z F1 H1 v e1 S1 (rv F1)⟩
/-! ### e.f op= value -/
def wAugF (C : Addr) (f : Str) (wo wv : WE) (fd : D → D → AH → KD → Prop) : WS := fun D ρ h => wo ρ h (fun x h1 => ∃ a fs d, x = .ref a ∧ h1 a = some (.ins C fs) ∧ fs.lookup f = some d ∧
  wv ρ h1 (fun y h2 => fd d y h2 fun z h3 => ∃ fs', h3 a = some (.ins C fs') ∧ fs'.length < 1000 ∧ D.nx ρ (up h3 a (.ins C (putFD f z fs')))) D.ex) D.ex
theorem as_augF {op : Operator} {r : R2} {fd : D → D → AH → KD → Prop} (c : Cls X.K C) (n : NoAttr X.K C f) (ok : OpD X.K r fd) (hop : InOp X op r) (ho : AE X E o wo) (hv : AE X E value wv) :
    AS X E (.AugAssign (.Attribute o f tpos) op value pos) (wAugF C f wo wv fd) := by
  refine ⟨PS.imp (ps_fldaug ho.run hv.run hop) fun D σ H ⟨F, ρ, h, S, R, q⟩ => ?_, fun D D' ρ h l q => ho.mo _ _ _ _ _ _ (fun x h1 ⟨a, fs, d, e1, e2, e3, z⟩ => ⟨a, fs, d, e1, e2, e3, hv.mo _ _ _ _ _ _ (fun y h2 z => ok.mo (fun z h3 ⟨fs', u1, u2, u3⟩ => ⟨fs', u1, u2, l.nx _ _ u3⟩) z) l.ex z⟩) l.ex q⟩
  refine ⟨F, ρ, h, S, R, ho.mo _ _ _ _ _ _ (fun x h1 z => ?_) (fun _ _ z => z) q⟩
  intro F1 H1 w e1 S1 rx
  obtain ⟨a, fs, d, rfl, ea, el, z⟩ := z
  cases rx
  obtain ⟨_, u, hu, dx, vs, rfl, rs⟩ := S1.ob _ _ ea
  obtain ⟨v, hv1, rv⟩ := rs.look el
  refine ⟨a, C, dx, vs, v, rfl, hu, c, n, hv1, F1, ρ, h1, S1, R.ext e1, hv.mo _ _ _ _ _ _ (fun y h2 z => ?_) (fun _ _ z => LX.ext e1 z) z⟩
  intro F2 H2 vy e2 S2 ry
  refine ok.to S2 (rv.ext e2) ry (ok.mo (fun z h3 z3 => ?_) z)
  intro F3 H3 vz e3 S3 rz
  obtain ⟨fs', ea', l', q3⟩ := z3
  obtain ⟨_, u, hu, dx', vs', rfl, rs'⟩ := S3.ob _ _ ea'
  exact ⟨dx', vs', hu, by rw [← rs'.length]; exact l', q3 F3 _ σ ((e1.trans e2).trans e3) (S3.put ea' (o := .ins C (putFD f z fs')) ⟨dx', _, rfl, rs'.put rz⟩) (R.ext ((e1.trans e2).trans e3))⟩
/-! ### classmethods -/
structure CMetC (P : Program) (w : World) (K : PySem.W.Frag) (mg : Str → Option Value) (base : Heap) (C : Addr) (m : Str) (k : Nat) (S : FSpec) : Prop where
  ex : ∃ mc p g, ClX.CRead K C mc ∧ ClX.CMet K C mc m p g ∧ FnRD P w K mg base k g S
  mo : MoF S
/-- o.m(..), o the class C, m a classmethod -/
def wCMet (C : Addr) (S : FSpec) (wo : WE) (wl : WA) : WE := fun ρ h Q X => wo ρ h (fun x h1 => x = .ref C ∧ wl ρ h1 (fun ds h2 => S (.ref C :: ds) h2 Q X) X) X
theorem ag_cmet {pl : Sem Bool} (c : Cg gz X E k) (M : CMetC X.prog X.w X.K X.mg X.base C m j S) (hj : j ≤ k) (ho : AE X E o wo) (ha : AA X E (e :: es) wl)
    (hst : starEach (e :: es) X.env = (false, eval e X.env) :: starEach es X.env := by rfl) (hpl : (backTo pos (starEach es X.env)).any (·.1) = false := by rfl)
    (ht : eval (.Call (.Attribute o m apos) (e :: es) [] pos) X.env = (do let ov ← eval o X.env; standAt apos.atName; let (f, first) ← holding [ov] (getMethod ov m pl); callWith pos f first (backTo pos (starEach (e :: es) X.env)) (backToKw pos (keywordEach [] X.env))) := by rfl) : AE X E (.Call (.Attribute o m apos) (e :: es) [] pos) (wCMet C S wo wl) := by
  obtain ⟨mc, p, g, r, cm, G⟩ := M.ex
  have mo := M.mo
  refine ⟨PE.imp (ClX.pe_cmeth (pl := pl) ho.run r cm (G.mono hj) c.room c.ps ha.run hst hpl ht) fun σ H Q ⟨F, ρ, h, S0, R, q⟩ => ?_, fun ρ h Q Q' X X' hq hx q => ho.mo _ _ _ _ _ _ (fun x h1 ⟨e1, z⟩ => ⟨e1, ha.mo _ _ _ _ _ _ (fun ds h2 z => mo _ _ _ _ _ _ hq hx z) hx z⟩) hx q⟩
  refine ⟨F, ρ, h, S0, R, ho.mo _ _ _ _ _ _ (fun x h1 z => ?_) (fun _ _ z => z) q⟩
  intro F1 H1 v e1 S1 r
  obtain ⟨rfl, z⟩ := z
  cases r
  refine ⟨rfl, F1, ρ, h1, S1, R.ext e1, ha.mo _ _ _ _ _ _ (fun ds h2 z => ?_) (fun _ _ z => LX.ext e1 z) z⟩
  intro F2 H2 us e2 S2 rs2
  exact ⟨F2, _, h2, S2, .cons (.ref C) rs2, mo _ _ _ _ _ _ (fun _ _ z => LQ.ext (e1.trans e2) z) (fun _ _ z => LX.ext (e1.trans e2) z) z⟩
/-- x(*e), x a variable that holds the class C -/
def wMakeVS (C : Addr) (S : FSpec) (i : Nat) (we : WE) : WE := fun ρ h Q X => ρ[i]? = some (some (.ref C)) ∧ wMakeS C S we ρ h Q X
theorem ag_makeVS (i : Nat) (c : Cg gz X E k) (M : MakC X.prog X.w X.K X.mg X.base m C j S) (hj : j + 1 ≤ k) (he : AE X E e we) (hN : X.N[i]? = some x := by rfl) (hv : Vis X.env.scope x := by first | exact Or.inl rfl | exact Or.inr (Or.inl rfl) | exact Or.inr (Or.inr rfl))
    (hdb : (x == ("__debug__" : Str)) = false := by decide) (hcd : (x == ("__classdict__" : Str)) = false := by decide) (hst : starEach [.Starred e sp_] X.env = [(true, eval e X.env)] := by rfl) : AE X E (.Call (.Name x p) [.Starred e sp_] [] pos) (wMakeVS C S i we) := by
  obtain ⟨fI, Mk, G⟩ := M.ex
  have mo := M.mo
  refine ⟨⟨fun pins s σ H Q I hq => ?_⟩, fun ρ h Q Q' X X' hq hx q => ⟨q.1, he.mo _ _ _ _ _ _ (fun y h1 ⟨ds, e0, z⟩ => ⟨ds, e0, fun a hz => mo _ _ _ _ _ _ (fun v h2 ⟨e1, fs, e2, z⟩ => ⟨e1, fs, e2, hq _ _ z⟩) hx (z a hz)⟩) hx q.2⟩⟩
  obtain ⟨F, ρ, h, S0, R, hi, q⟩ := hq
  obtain ⟨vC, hvC, rC⟩ := R.2 i _ hi
  cases rC
  refine wpAny_Call_Name_kw (thn ((pe_var (pos := p) (i := i) hN hv hdb hcd).run pins s σ H (fun v H1 => v = .ref C ∧ H1 = H) I ⟨.ref C, hvC, rfl, rfl⟩) fun u s1 ⟨v, H1, I1, r1, ev, eH⟩ => ?_)
  subst ev eH
  obtain rfl : u = Value.ref C := r1
  refine PySem.W.callWith_S (h₀ := X.base) I1.ok.mod.kin Mk.kp (thn (he.run.run pins s1 σ H1 (fun y H1 => ∃ a xs, y = V.ref a ∧ (SqT X.K H1 a xs ∨ SqL X.K H1 a xs) ∧ ∀ x dx, H1 x = none → H1 dx = none → dx ≠ x → spD X.K S (V.ref x :: xs) (upd (upd H1 dx (.own x)) x (.ins C dx [])) (fun v H2 => v = .non ∧ Q (.ref x) H2) E) I1
    ⟨F, ρ, h, S0, R, he.mo _ _ _ _ _ _ (fun y h1 z F1 H1 v e1 S1 r => ?_) (fun _ _ z => z) q⟩) fun v s1 ⟨y, H1, I1, ry, a, xs, ey, hxs, q1⟩ => ?_) hst
  · obtain ⟨ds, e0, z⟩ := z
    obtain ⟨a, vs, rfl, hs, rs⟩ := S1.seqOf r e0
    exact ⟨a, vs, rfl, hs.symm, make_to mo S1 rs fun a ha => mo _ _ _ _ _ _ (fun v h2 ⟨z1, fs, z2, z⟩ => ⟨z1, fs, z2, LQ.ext e1 z⟩) (fun _ _ z => LX.ext e1 z) (z a ha)⟩
  · subst ey
    obtain rfl : v = Value.ref a := ry
    exact StX.star_any I1 hxs fun us s2 I2 rv => ⟨I2.kIn, StX.run_makeR Mk G (c.room.mono hj) c.ps I2 rv q1⟩
end
end DL
namespace DL
open PySem PySem.Spec L2 C8
/-- where the package's classes stand -/
structure Ad where
  Program : Addr := 0
  LineProgram : Addr := 0
  Walk : Addr := 0
  Ledger : Addr := 0
  Lengths : Addr := 0
  Kind : Addr := 0
  Machine : Addr := 0
  LateMachine : Addr := 0
  Trial : Addr := 0
  Group : Addr := 0
  Ground : Addr := 0
  BodyReader : Addr := 0
  Meter : Addr := 0
  Change : Addr := 0
  Desk : Addr := 0
  Account : Addr := 0
/-- += of numbers -/
def dAddI (x y : D) (h : AH) (Q : KD) : Prop := ∃ i j, x = .int i ∧ y = .int j ∧ Q (.int (i + j)) h
theorem dAddI_ok {K : PySem.W.Frag} : OpD K rAdd dAddI where
  to := by
    rintro F h H x y vx vy Q S rx ry ⟨i, j, rfl, rfl, q⟩
    cases rx; cases ry
    exact ⟨i, j, rfl, rfl, q.at S (.int _)⟩
  mo := fun hq ⟨i, j, e1, e2, q⟩ => ⟨i, j, e1, e2, hq _ _ q⟩
theorem in_addI {X : Cx} : InOp X .Add rAdd := in_add
theorem u_addIp {i j : Int} {h : AH} {Q : KD} : dAddI (.int i) (.int j) h Q = Q (.int (i + j)) h := by
  unfold dAddI
  refine propext ⟨?_, fun q => ⟨i, j, rfl, rfl, q⟩⟩
  rintro ⟨a, b, e1, e2, q⟩
  cases e1; cases e2; exact q
section
variable {ρ : EnvD} {h : AH} {Q : KD} {X : KX} {D0 : EndsD} {a b wo wv we : WE} {wl : WA} {C : Addr} {S : FSpec} {f m : Str} {fs : List (Str × D)} {x y d : D} {i : Nat} {fd : D → D → AH → KD → Prop} {s1 s2 : WS}
theorem u_orE : wOrE a b ρ h Q X = (a ρ h Q X ∨ b ρ h Q X) := rfl
theorem u_orS : wOrS s1 s2 D0 ρ h = (s1 D0 ρ h ∨ s2 D0 ρ h) := rfl
theorem u_star {Q : List D → AH → Prop} : wStar we wl ρ h Q X = we ρ h (fun x h1 => ∃ xs, seqOf h1 x = some xs ∧ wl ρ h1 (fun ys h2 => Q (xs ++ ys) h2) X) X := rfl
theorem u_con : wCon C f d wo ρ h Q X = wo ρ h (fun x h1 => ∃ fs, insOf h1 x = some (C, fs) ∧ fs.lookup f = none ∧ Q d h1) X := rfl
theorem u_augF : wAugF C f wo wv fd D0 ρ h = wo ρ h (fun x h1 => ∃ a fs d, x = .ref a ∧ h1 a = some (.ins C fs) ∧ fs.lookup f = some d ∧ wv ρ h1 (fun y h2 => fd d y h2 fun z h3 => ∃ fs', h3 a = some (.ins C fs') ∧ fs'.length < 1000 ∧ D0.nx ρ (up h3 a (.ins C (putFD f z fs')))) D0.ex) D0.ex := rfl
theorem u_cmet : wCMet C S wo wl ρ h Q X = wo ρ h (fun x h1 => x = .ref C ∧ wl ρ h1 (fun ds h2 => S (.ref C :: ds) h2 Q X) X) X := rfl
theorem u_makeVS : wMakeVS C S i we ρ h Q X = (ρ[i]? = some (some (.ref C)) ∧ wMakeS C S we ρ h Q X) := rfl
theorem u_aug {n : Nat} : wAug n a fd D0 ρ h = ∃ x, ρ[n]? = some (some x) ∧ a ρ h (fun y h1 => fd x y h1 fun z h2 => D0.nx (ρ.set n (some z)) h2) D0.ex := rfl
end
end DL
namespace PK
open PySem PySem.Spec L2 C8 DL
abbrev N_is_integer : List Str := ["value"]
abbrev N_is_between : List Str := ["value", "least", "most"]
abbrev N_is_head : List Str := ["value", "word", "parts"]
abbrev N_inner_of : List Str := ["action"]
abbrev N_bytes_of : List Str := ["action"]
abbrev N_walked : List Str := ["body", "place", "found", "index", "action", "here", "inner"]
abbrev N_wrong_in : List Str := ["body", "place", "count", "index", "action", "here", "wrong"]
abbrev N_first_wrong : List Str := ["body"]
abbrev N_size_in : List Str := ["body", "total", "action", "many"]
abbrev N_bytes_in : List Str := ["body", "total", "action"]
abbrev N_reach_in : List Str := ["body", "here", "most", "action", "many"]
abbrev N_unrolled_in : List Str := ["body", "found", "action"]
abbrev N_words_in : List Str := ["body", "place", "action"]
abbrev N_Program___init__ : List Str := ["self", "actions", "wrong", "size", "reach"]
abbrev N_Program_of : List Str := ["cls", "body"]
abbrev N_Program_body : List Str := ["self"]
abbrev N_Program_mode : List Str := ["self"]
abbrev N_Program_size : List Str := ["self"]
abbrev N_Program_reach : List Str := ["self"]
abbrev N_Program_unrolled : List Str := ["self"]
abbrev N_Program_words : List Str := ["self"]
abbrev N_program_in : List Str := ["mode", "body"]
abbrev N_Walk___init__ : List Str := ["self", "program"]
abbrev N_Walk_follow : List Str := ["self", "body", "state", "action"]
abbrev N_Walk_passed : List Str := ["self", "action", "state", "times", "offset", "is_early", "point"]
abbrev N_Walk_left : List Str := ["self", "action", "state", "times", "offset", "is_early", "word"]
abbrev N_Walk_note : List Str := ["self", "point", "state", "amount", "times", "offset", "is_early"]
abbrev N_visits : List Str := ["program"]
abbrev N_written : List Str := ["program"]
abbrev N_copies : List Str := ["program"]
abbrev N_end_of_walk : List Str := ["walk", "times", "offset", "is_early"]
abbrev N_end_of : List Str := ["program"]
abbrev N_events : List Str := ["program", "point", "offset", "amount", "is_early"]
abbrev N_early_events : List Str := ["program", "point", "offset", "amount", "is_early"]
abbrev N_late_events : List Str := ["program", "row"]
abbrev N_losses : List Str := ["program", "rows", "point", "word"]
abbrev N_processes : List Str := ["program", "rows", "point", "word"]
end PK
namespace PK
open PySem PySem.Spec L2 C8 DL
/-! ### things: data of all kinds, no dict but {} -/
mutual
def th : D → Bool
  | .non => true
  | .bl _ => true
  | .int i => decide (i.natAbs < 2 ^ 64)
  | .str _ => true
  | .tup xs => decide (xs.length ≤ 1000) && ths xs
  | .lst xs => decide (xs.length ≤ 1000) && ths xs
  | .dK kvs => kvs.isEmpty
  | .tpl _ => false
  | .ref _ => false
  | .ty _ => false
  | .lk _ => false
  | .ob _ _ => false
  | .dT _ => false
def ths : List D → Bool
  | [] => true
  | x :: xs => th x && ths xs
end
mutual
def dep : D → Nat
  | .tup xs => deps xs
  | .lst xs => deps xs
  | .tpl xs => deps xs
  | .non => 0
  | .bl _ => 0
  | .int _ => 0
  | .str _ => 0
  | .dK _ => 0
  | .ref _ => 0
  | .ty _ => 0
  | .lk _ => 0
  | .ob _ _ => 0
  | .dT _ => 0
def deps : List D → Nat
  | [] => 0
  | x :: xs => max (dep x + 1) (deps xs)
end
def bare (w : Str) : Bool := inD (.str w) [.str "line", .str "flush", .str "drop", .str "both", .str "exit", .str "quit"]
def isTup : D → Bool
  | .tup _ => true
  | _ => false
/-- the head of an action: its own judgement -/
def headL : List D → Bool
  | [] => false
  | .str w :: ps =>
    if bare w = true then ps.isEmpty
    else if w = ("write" : Str) then (match ps with
      | [x] => btw x 1 2000
      | _ => false)
    else if w = ("fork" : Str) then (match ps with
      | [x] => isTup x
      | _ => false)
    else if w = ("repeat" : Str) then (match ps with
      | [x, y] => btw x 0 300 && isTup y
      | _ => false)
    else false
  | _ => false
def headD : D → Bool
  | .tup xs => headL xs
  | _ => false
/-- what is within -/
def innD : List D → D
  | .str w :: ps => if w = ("fork" : Str) ∨ w = ("repeat" : Str) then (ps.getLast?.getD (.str w)) else .tup []
  | _ => .tup []
def bytD : List D → D
  | .str w :: ps => if w = ("write" : Str) then ps.headD (.int 0) else if w = ("line" : Str) then .int 1 else .int 0
  | _ => .int 0

abbrev S_is_integer (z : Ad) : FSpec := S_isInt
abbrev S_is_between (z : Ad) : FSpec := S_isBtw
def S_is_head (z : Ad) : FSpec := fun ds h Q _ => ∃ x, ds = [x] ∧ th x = true ∧ Q (.bl (headD x)) h
def S_inner_of (z : Ad) : FSpec := fun ds h Q _ => ∃ xs, ds = [.tup xs] ∧ headL xs = true ∧ Q (innD xs) h
def S_bytes_of (z : Ad) : FSpec := fun ds h Q _ => ∃ xs, ds = [.tup xs] ∧ headL xs = true ∧ Q (bytD xs) h
/-! ### actions and bodies -/
inductive Ac where
  | bare (w : Str) | write (n : Nat) | fork (b : List Ac) | rep (n : Nat) (b : List Ac)
mutual
def enc : Ac → D
  | .bare w => .tup [.str w]
  | .write n => .tup [.str "write", .int n]
  | .fork b => .tup [.str "fork", .tup (encs b)]
  | .rep n b => .tup [.str "repeat", .int n, .tup (encs b)]
def encs : List Ac → List D
  | [] => []
  | a :: r => enc a :: encs r
end
def word : Ac → Str
  | .bare w => w
  | .write _ => "write"
  | .fork _ => "fork"
  | .rep _ _ => "repeat"
def inn : Ac → List Ac
  | .bare _ => []
  | .write _ => []
  | .fork b => b
  | .rep _ b => b
def byt : Ac → Nat
  | .bare w => if w = "line" then 1 else 0
  | .write n => n
  | .fork _ => 0
  | .rep _ _ => 0
mutual
def okA : Ac → Bool
  | .bare w => PK.bare w
  | .write n => decide (1 ≤ n) && decide (n ≤ 2000)
  | .fork b => okB b
  | .rep n b => decide (n ≤ 300) && okB b
def okB : List Ac → Bool
  | [] => true
  | a :: r => okA a && okB r
end
mutual
def dptA : Ac → Nat
  | .bare _ => 1
  | .write _ => 1
  | .fork b => dptB b + 1
  | .rep _ b => dptB b + 1
def dptB : List Ac → Nat
  | [] => 0
  | a :: r => max (dptA a) (dptB r)
end
mutual
def cntA : Ac → Nat
  | .bare _ => 1
  | .write _ => 1
  | .fork b => cntB b + 1
  | .rep _ b => cntB b + 1
def cntB : List Ac → Nat
  | [] => 0
  | a :: r => cntA a + cntB r
end
mutual
def sizA : Ac → Nat
  | .bare _ => 1
  | .write _ => 1
  | .fork b => 1 + sizB b
  | .rep n b => n * sizB b
def sizB : List Ac → Nat
  | [] => 0
  | a :: r => sizA a + sizB r
end
/-! .. a repeat of none counted as one -/
mutual
def bigA : Ac → Nat
  | .bare _ => 1
  | .write _ => 1
  | .fork b => 1 + bigB b
  | .rep n b => (n + 1) * bigB b
def bigB : List Ac → Nat
  | [] => 0
  | a :: r => bigA a + bigB r
end
mutual
def bynA : Ac → Nat
  | .bare w => byt (.bare w)
  | .write n => n
  | .fork _ => 0
  | .rep n b => n * bynB b
def bynB : List Ac → Nat
  | [] => 0
  | a :: r => bynA a + bynB r
end
mutual
/-- the greatest number on a way: of one action that stands at here, with the greatest so far -/
def rchA : Ac → Nat → Nat → Nat
  | .bare w, _, m => m
  | .write n, _, m => m
  | .fork b, h, m => max m (h + rchL b 0 0)
  | .rep n b, h, m => if n = 0 then m else max m (h + (n - 1) * bynB b + rchL b 0 0)
def rchL : List Ac → Nat → Nat → Nat
  | [], h, m => max m h
  | a :: r, h, m => rchL r (h + bynA a) (rchA a h m)
end
def rchB (b : List Ac) : Nat := rchL b 0 0
mutual
def unrA : Ac → List Ac
  | .bare w => [.bare w]
  | .write n => [.write n]
  | .fork b => [.fork (unrB b)]
  | .rep n b => (List.replicate n (unrB b)).flatten
def unrB : List Ac → List Ac
  | [] => []
  | a :: r => unrA a ++ unrB r
end
mutual
/-- no repeats -/
def flaA : Ac → Bool
  | .bare _ => true
  | .write _ => true
  | .fork b => flaB b
  | .rep _ _ => false
def flaB : List Ac → Bool
  | [] => true
  | a :: r => flaA a && flaB r
end
/-! all actions with their places -/
mutual
def wlkA : List Nat → Ac → List (List Nat × Ac)
  | p, .bare w => [(p, .bare w)]
  | p, .write n => [(p, .write n)]
  | p, .fork b => (p, .fork b) :: wlkB p 0 b
  | p, .rep n b => (p, .rep n b) :: wlkB p 0 b
def wlkB : List Nat → Nat → List Ac → List (List Nat × Ac)
  | _, _, [] => []
  | p, i, a :: r => wlkA (p ++ [i]) a ++ wlkB p (i + 1) r
end
def natD (i : Nat) : D := .int i
def plcD (p : List Nat) : D := .tup (p.map natD)
def rowD (x : List Nat × Ac) : D := .tup [plcD x.1, enc x.2]
/-! the words, children behind their action -/
mutual
def wrdA : Ac → List Str
  | .bare w => [w]
  | .write _ => ["write"]
  | .fork b => "fork" :: wrdB b
  | .rep _ b => "repeat" :: wrdB b
def wrdB : List Ac → List Str
  | [] => []
  | a :: r => wrdA a ++ wrdB r
end
def S_walked (z : Ad) (n : Nat) : FSpec := fun ds h Q _ => ∃ b p, ds = [.tup (encs b), plcD p] ∧ okB b = true ∧ dptB b < n ∧ cntB b + p.length + dptB b ≤ 60000 ∧ Q (.lst ((wlkB p 0 b).map rowD)) h
def S_wrong_in (z : Ad) (n : Nat) : FSpec := fun ds h Q _ => ∃ (b : List Ac) (p : List Nat) (c : Nat), ds = [.tup (encs b), plcD p, .int c] ∧ okB b = true ∧ dptB b < n ∧ p.length + dptB b ≤ 6 ∧ c + cntB b ≤ 300 ∧ Q (.tup [.non, .int ((c + cntB b : Nat) : Int)]) h
/-- what a program can be made of -/
structure Fit (b : List Ac) : Prop where
  ok : okB b = true
  dpt : dptB b ≤ 6
  cnt : cntB b ≤ 300
  siz : sizB b ≤ 2000
  rch : rchB b ≤ 2000
def S_first_wrong (z : Ad) : FSpec := fun ds h Q _ => ∃ b, ds = [.tup (encs b)] ∧ Fit b ∧ Q .non h
def S_size_in (z : Ad) (n : Nat) : FSpec := fun ds h Q _ => ∃ b, ds = [.tup (encs b)] ∧ okB b = true ∧ dptB b < n ∧ Q (.int (sizB b : Nat)) h
def S_bytes_in (z : Ad) (n : Nat) : FSpec := fun ds h Q _ => ∃ b, ds = [.tup (encs b)] ∧ okB b = true ∧ dptB b < n ∧ Q (.int (bynB b : Nat)) h
def S_reach_in (z : Ad) (n : Nat) : FSpec := fun ds h Q _ => ∃ b, ds = [.tup (encs b)] ∧ okB b = true ∧ dptB b < n ∧ dptB b < 12 ∧ Q (.int (rchB b : Nat)) h
def S_unrolled_in (z : Ad) (n : Nat) : FSpec := fun ds h Q _ => ∃ b, ds = [.tup (encs b)] ∧ okB b = true ∧ dptB b < n ∧ bigB b ≤ 50000 ∧ Q (.tup (encs (unrB b))) h
def S_words_in (z : Ad) : FSpec := fun ds h Q _ => ∃ b, ds = [.tup (encs b)] ∧ okB b = true ∧ dptB b < 12 ∧ cntB b ≤ 50000 ∧ Q (.tup ((wrdB b).map .str)) h
/-! ### programs: of the one class or the other -/
def clsOf (z : Ad) (lm : Bool) : Addr := if lm = true then z.LineProgram else z.Program
def prog (z : Ad) (lm : Bool) (b : List Ac) : D := .ob (clsOf z lm) [("held", .tup (encs b))]
def modeS (lm : Bool) : Str := if lm = true then "line" else "full"
/-- a program that can be unrolled -/
structure Prg (b : List Ac) : Prop where
  ok : okB b = true
  dpt : dptB b ≤ 6
  big : bigB b ≤ 50000
def S_Program___init__ (z : Ad) : FSpec := fun ds h Q _ => ∃ lm a b, ds = [.ref a, .tup (encs b)] ∧ h a = some (.ins (clsOf z lm) []) ∧ Fit b ∧ Q .non (up h a (.ins (clsOf z lm) [("held", .tup (encs b))]))
def S_Program_of (z : Ad) : FSpec := fun ds h Q _ => ∃ lm b, ds = [.ref (clsOf z lm), .tup (encs b)] ∧ Fit b ∧ Q (prog z lm b) h
def S_Program_body (z : Ad) : FSpec := fun ds h Q _ => ∃ lm b, ds = [prog z lm b] ∧ Q (.tup (encs b)) h
def S_Program_mode (z : Ad) : FSpec := fun ds h Q _ => ∃ lm b, ds = [prog z lm b] ∧ Q (.str (modeS lm)) h
def S_Program_size (z : Ad) : FSpec := fun ds h Q _ => ∃ lm b, ds = [prog z lm b] ∧ okB b = true ∧ dptB b ≤ 6 ∧ Q (.int (sizB b : Nat)) h
def S_Program_reach (z : Ad) : FSpec := fun ds h Q _ => ∃ lm b, ds = [prog z lm b] ∧ okB b = true ∧ dptB b ≤ 6 ∧ Q (.int (rchB b : Nat)) h
def S_Program_unrolled (z : Ad) : FSpec := fun ds h Q _ => ∃ lm b, ds = [prog z lm b] ∧ Prg b ∧ Q (.tup (encs (unrB b))) h
def S_Program_words (z : Ad) : FSpec := fun ds h Q _ => ∃ lm b, ds = [prog z lm b] ∧ Prg b ∧ Q (.tup ((wrdB (unrB b)).map .str)) h
def S_program_in (z : Ad) : FSpec := fun ds h Q _ => ∃ lm b, ds = [.str (modeS lm), .tup (encs b)] ∧ Fit b ∧ Q (prog z lm b) h
/-! ### the walk -/
abbrev WSt := Nat × Nat × Bool
def stD (s : WSt) : D := .tup [.int (s.1 : Nat), .int (s.2.1 : Nat), .bl s.2.2]
def leftS (lm : Bool) (a : Ac) (s : WSt) : WSt :=
  if word a = "exit" ∨ word a = "quit" then (0, s.2.1, s.2.2)
  else if word a = "flush" ∨ word a = "drop" ∨ (word a = "line" ∧ lm = true) then (s.1, 0, false)
  else (s.1, s.2.1 + byt a, s.2.2)
def passS (lm : Bool) (a : Ac) (s : WSt) : WSt :=
  if word a = "fork" then s else if word a = "both" then (2 * s.1, s.2.1, s.2.2) else leftS lm a s
def folS (lm : Bool) : List Ac → WSt → WSt
  | [], s => s
  | a :: r, s => folS lm r (passS lm a s)
mutual
def seenA (lm : Bool) : Ac → WSt → List (Nat × Nat)
  | .bare _, s => [(s.1, s.2.1)]
  | .write _, s => [(s.1, s.2.1)]
  | .fork b, s => (s.1, s.2.1) :: seenB lm b s
  | .rep _ _, s => [(s.1, s.2.1)]
def seenB (lm : Bool) : List Ac → WSt → List (Nat × Nat)
  | [], _ => []
  | a :: r, s => seenA lm a s ++ seenB lm r (passS lm a s)
end
structure Note where
  pt : Nat
  off : Nat
  amt : Int
  early : Bool
def noteD (x : Note) : D := .tup [.int (x.pt : Nat), .int (x.off : Nat), .int x.amt, .bl x.early]
def note1 (p : Nat) (s : WSt) (v : Int) : List Note := if s.1 = 0 then [] else [⟨p, s.2.1, v, s.2.2⟩]
mutual
def noteA (lm : Bool) : Nat → Ac → WSt → List Note
  | p, .bare w, s => if w = "both" then note1 p s s.1 else if w = "drop" ∨ w = "quit" then note1 p s (-(s.1 : Int)) else []
  | _, .write _, _ => []
  | p, .fork b, s => note1 p s s.1 ++ noteB lm (p + 1) b s
  | _, .rep _ _, _ => []
def noteB (lm : Bool) : Nat → List Ac → WSt → List Note
  | _, [], _ => []
  | p, a :: r, s => noteA lm p a s ++ noteB lm (p + sizA a) r (passS lm a s)
end
mutual
def wrtA (lm : Bool) : Ac → WSt → Nat
  | .bare w, s => s.1 * byt (.bare w)
  | .write n, s => s.1 * n
  | .fork b, s => wrtB lm b s
  | .rep _ _, _ => 0
def wrtB (lm : Bool) : List Ac → WSt → Nat
  | [], _ => 0
  | a :: r, s => wrtA lm a s + wrtB lm r (passS lm a s)
end
def seenD (x : Nat × Nat) : D := .tup [.int (x.1 : Nat), if x.1 = 0 then .non else .int (x.2 : Nat)]
/-- the fields of a walk under way -/
def walkF (lm : Bool) (p q : Addr) (w : Nat) : List (Str × D) := [("ends_lines", .bl lm), ("seen", .ref p), ("noted", .ref q), ("own_written", .int (w : Nat))]
/-- a heap with a walk under way -/
def WH (z : Ad) (h : AH) (a p q : Addr) (lm : Bool) (sn : List (Nat × Nat)) (nt : List Note) (w : Nat) : AH :=
  up (up (up h p (.lst (sn.map seenD))) q (.lst (nt.map noteD))) a (.ins z.Walk (walkF lm p q w))
structure Apart (a p q : Addr) : Prop where
  ap : a ≠ p
  aq : a ≠ q
  pq : p ≠ q
def S_Walk_follow (z : Ad) (n : Nat) : FSpec := fun ds h Q _ => ∃ a p q lm sn nt w g b s, ds = [.ref a, .tup (encs b), stD s] ∧ h = WH z g a p q lm sn nt w ∧ Apart a p q ∧ okB b = true ∧ flaB b = true ∧ 2 * dptB b + 1 ≤ n ∧
  sn.length + sizB b ≤ 60000 ∧ nt.length + sizB b ≤ 60000 ∧ Q (stD (folS lm b s)) (WH z g a p q lm (sn ++ seenB lm b s) (nt ++ noteB lm sn.length b s) (w + wrtB lm b s))
def S_Walk_passed (z : Ad) (n : Nat) : FSpec := fun ds h Q _ => ∃ a p q lm sn nt w g c s, ds = [.ref a, enc c, stD s] ∧ h = WH z g a p q lm sn nt w ∧ Apart a p q ∧ okA c = true ∧ flaA c = true ∧ 2 * dptA c ≤ n ∧
  sn.length + sizA c ≤ 60000 ∧ nt.length + sizA c ≤ 60000 ∧ Q (stD (passS lm c s)) (WH z g a p q lm (sn ++ seenA lm c s) (nt ++ noteA lm sn.length c s) (w + wrtA lm c s))
def S_Walk_left (z : Ad) : FSpec := fun ds h Q _ => ∃ a p q lm sn nt w g c s, ds = [.ref a, enc c, stD s] ∧ h = WH z g a p q lm sn nt w ∧ Apart a p q ∧ okA c = true ∧ Q (stD (leftS lm c s)) h
def S_Walk_note (z : Ad) : FSpec := fun ds h Q _ => ∃ a p q lm sn nt w g i s v, ds = [.ref a, .int ((i : Nat) : Int), stD s, .int v] ∧ h = WH z g a p q lm sn nt w ∧ Apart a p q ∧ nt.length < 60000 ∧ Q .non (WH z g a p q lm sn (nt ++ note1 i s v) w)
def st0 : WSt := (1, 0, true)
def S_Walk___init__ (z : Ad) : FSpec := fun ds h Q _ => ∃ a lm b, ds = [.ref a, prog z lm b] ∧ h a = some (.ins z.Walk []) ∧ Prg b ∧
  ∀ p q, h p = none → h q = none → p ≠ q → Q .non (up (up (up h p (.lst ((seenB lm (unrB b) st0).map seenD))) q (.lst ((noteB lm 0 (unrB b) st0).map noteD))) a (.ins z.Walk (walkF lm p q (wrtB lm (unrB b) st0) ++ [(("behind" : Str), stD (folS lm (unrB b) st0))])))
def S_visits (z : Ad) : FSpec := fun ds h Q _ => ∃ lm b, ds = [prog z lm b] ∧ Prg b ∧ Q (.tup ((seenB lm (unrB b) st0).map seenD)) h
def S_written (z : Ad) : FSpec := fun ds h Q _ => ∃ lm b, ds = [prog z lm b] ∧ Prg b ∧ Q (.int (wrtB lm (unrB b) st0 : Nat)) h
def S_copies (z : Ad) : FSpec := fun ds h Q _ => ∃ lm b, ds = [prog z lm b] ∧ Prg b ∧ Q (.int ((folS lm (unrB b) st0).1 : Nat)) h
def endD (s : WSt) : D := if s.1 = 0 then .non else .tup [.bl s.2.2, .int (s.2.1 : Nat)]
def S_end_of_walk (z : Ad) : FSpec := fun ds h Q _ => ∃ fs s, ds = [.ob z.Walk fs] ∧ fs.lookup ("behind" : Str) = some (stD s) ∧ Q (endD s) h
def S_end_of (z : Ad) : FSpec := fun ds h Q _ => ∃ lm b, ds = [prog z lm b] ∧ Prg b ∧ Q (endD (folS lm (unrB b) st0)) h
def evD (x : Note) : D := .tup [.int (x.pt : Nat), .int (x.off : Nat), .int x.amt]
def S_events (z : Ad) : FSpec := fun ds h Q _ => ∃ lm b, ds = [prog z lm b] ∧ Prg b ∧ Q (.lst (((noteB lm 0 (unrB b) st0).filter fun x => decide (0 < x.off)).map evD)) h
def S_early_events (z : Ad) : FSpec := fun ds h Q _ => ∃ lm b, ds = [prog z lm b] ∧ Prg b ∧ Q (.lst (((noteB lm 0 (unrB b) st0).filter fun x => x.early).map evD)) h
def S_late_events (z : Ad) : FSpec := fun ds h Q _ => ∃ lm b, ds = [prog z lm b] ∧ Prg b ∧ Q (.lst (((noteB lm 0 (unrB b) st0).filter fun x => decide (0 < x.off) && !x.early).map evD)) h
/-- the points of some words, with how many come to them -/
def ptsF (ws : List Str) : Nat → List Str → List (Nat × Nat) → List (Nat × Nat)
  | _, [], _ => []
  | _, _ :: _, [] => []
  | i, w :: l, r :: rs => if w ∈ ws then (i, r.1) :: ptsF ws (i + 1) l rs else ptsF ws (i + 1) l rs
def ptsW (ws : List Str) (rows : List (Nat × Nat)) (words : List Str) : List (Nat × Nat) := ptsF ws 0 words rows
def lossL (lm : Bool) (b : List Ac) : List D := ((ptsW ["drop", "quit"] (seenB lm (unrB b) st0) (wrdB (unrB b))).filter fun x => decide (0 < x.2)).map fun x => natD x.1
def S_losses (z : Ad) : FSpec := fun ds h Q _ => ∃ lm b, ds = [prog z lm b] ∧ Prg b ∧ ∀ p, h p = none → Q (.ref p) (up h p (.lst (lossL lm b)))
def S_processes (z : Ad) : FSpec := fun ds h Q _ => ∃ lm b, ds = [prog z lm b] ∧ Prg b ∧ Q (.int ((1 + ((ptsW ["fork", "both"] (seenB lm (unrB b) st0) (wrdB (unrB b))).map (·.2)).sum : Nat) : Int)) h
end PK
namespace PK
open PySem PySem.Spec L2 C8 DL
/-! ### the readings -/
def w_is_integer (z : Ad) : WS := (wRet (wAndV (wB dIsi (wCons (wVar 0) (wCons (wC (.ty "int")) wNil))) (wNotV (wB dIsi (wCons (wVar 0) (wCons (wC (.ty "bool")) wNil))))))
def w_is_between (z : Ad) : WS := (wRet (wAndV (wCallP (S_is_integer z) 1 (fun ds _ => ds) (wCons (wVar 0) wNil)) (wChain (dCmpI fun i j => decide (i ≤ j)) (dCmpI fun i j => decide (i ≤ j)) (wVar 1) (wVar 0) (wVar 2))))
def w_is_head (z : Ad) : WS := (wSeq (wIfS (wOr (wNot (wTest (wB dIsi (wCons (wVar 0) (wCons (wC (.ty "tuple")) wNil))))) (wOr (wTest (wOp (dEq fun b => b) (wB dLen (wCons (wVar 0) wNil)) (wC (.int 0)))) (wNot (wTest (wB dIsi (wCons (wOp dIx (wVar 0) (wC (.int 0))) (wCons (wC (.ty "str")) wNil))))))) (wRet (wC (.bl false))) wSkip)
  (wSeq (wAsg (wVar 0) (gStarD 2 1 (gsCons (gN 1) (gsCons (gN 2) gsNil))))
  (wSeq (wIfS (wTest (wOp (dIn false) (wVar 1) (wC (.tup [(.str "line"), (.str "flush"), (.str "drop"), (.str "both"), (.str "exit"), (.str "quit")])))) (wRet (wOp (dEq fun b => b) (wB dLen (wCons (wVar 2) wNil)) (wC (.int 0)))) wSkip)
  (wSeq (wIfS (wTest (wOp (dEq fun b => b) (wVar 1) (wC (.str "write")))) (wRet (wAndV (wOp (dEq fun b => b) (wB dLen (wCons (wVar 2) wNil)) (wC (.int 1))) (wCallP (S_is_between z) 3 (fun ds _ => ds) (wCons (wOp dIx (wVar 2) (wC (.int 0))) (wCons (wC (.int 1)) (wCons (wC (.int 2000)) wNil)))))) wSkip)
  (wSeq (wIfS (wTest (wOp (dEq fun b => b) (wVar 1) (wC (.str "fork")))) (wRet (wAndV (wOp (dEq fun b => b) (wB dLen (wCons (wVar 2) wNil)) (wC (.int 1))) (wB dIsi (wCons (wOp dIx (wVar 2) (wC (.int 0))) (wCons (wC (.ty "tuple")) wNil))))) wSkip)
  (wRet (wAndV (wOp (dEq fun b => b) (wVar 1) (wC (.str "repeat"))) (wAndV (wOp (dEq fun b => b) (wB dLen (wCons (wVar 2) wNil)) (wC (.int 2))) (wAndV (wCallP (S_is_between z) 3 (fun ds _ => ds) (wCons (wOp dIx (wVar 2) (wC (.int 0))) (wCons (wC (.int 0)) (wCons (wC (.int 300)) wNil)))) (wB dIsi (wCons (wOp dIx (wVar 2) (wC (.int 1))) (wCons (wC (.ty "tuple")) wNil))))))))))))
def w_inner_of (z : Ad) : WS := (wRet (wIf (wTest (wOp (dIn false) (wOp dIx (wVar 0) (wC (.int 0))) (wTup (wCons (wC (.str "fork")) (wCons (wC (.str "repeat")) wNil))))) (wOp dIx (wVar 0) (wNeg (wC (.int 1)))) (wTup wNil)))
def w_bytes_of (z : Ad) : WS := (wSeq (wIfS (wTest (wOp (dEq fun b => b) (wOp dIx (wVar 0) (wC (.int 0))) (wC (.str "write")))) (wRet (wOp dIx (wVar 0) (wC (.int 1)))) wSkip)
  (wRet (wIf (wTest (wOp (dEq fun b => b) (wOp dIx (wVar 0) (wC (.int 0))) (wC (.str "line")))) (wC (.int 1)) (wC (.int 0)))))
def w_walked (z : Ad) (n : Nat) : WS := (wSeq (wAsg (wLst false wNil) (gN 2))
  (wSeq (wFor (iNum (wCons (wVar 0) wNil)) (gT 2 (gsCons (gN 3) (gsCons (gN 4) gsNil))) (wSeq (wAsg (wTup (wStar (wVar 1) (wCons (wVar 3) wNil))) (gN 5))
  (wSeq (wAsg (wCallP (S_walked z n) 2 (fun ds _ => ds) (wCons (wCallP (S_inner_of z) 1 (fun ds _ => ds) (wCons (wVar 4) wNil)) (wCons (wVar 5) wNil))) (gN 6))
  (wAsg (wLst false (wStar (wVar 2) (wCons (wTup (wCons (wVar 5) (wCons (wVar 4) wNil))) (wStar (wVar 6) wNil)))) (gN 2)))))
  (wRet (wVar 2))))
def w_wrong_in (z : Ad) (n : Nat) : WS := (wSeq (wFor (iNum (wCons (wVar 0) wNil)) (gT 2 (gsCons (gN 3) (gsCons (gN 4) gsNil))) (wSeq (wAsg (wTup (wStar (wVar 1) (wCons (wVar 3) wNil))) (gN 5))
  (wSeq (wAsg (wOp (dAdd false) (wVar 2) (wC (.int 1))) (gN 2))
  (wSeq (wIfS (wOr (wNot (wTest (wCallP (S_is_head z) 1 (fun ds _ => ds) (wCons (wVar 4) wNil)))) (wOr (wTest (wOp (dCmpI fun i j => decide (j < i)) (wB dLen (wCons (wVar 5) wNil)) (wC (.int 6)))) (wTest (wOp (dCmpI fun i j => decide (j < i)) (wVar 2) (wC (.int 300)))))) (wRet (wTup (wCons (wVar 5) (wCons (wVar 2) wNil)))) wSkip)
  (wSeq (wAsg (wCallP (S_wrong_in z n) 3 (fun ds _ => ds) (wCons (wCallP (S_inner_of z) 1 (fun ds _ => ds) (wCons (wVar 4) wNil)) (wCons (wVar 5) (wCons (wVar 2) wNil)))) (gT 2 (gsCons (gN 6) (gsCons (gN 2) gsNil))))
  (wIfS (wTest (wOp (dIsN fun b => !b) (wVar 6) (wC .non))) (wRet (wTup (wCons (wVar 6) (wCons (wVar 2) wNil)))) wSkip))))))
  (wRet (wTup (wCons (wC .non) (wCons (wVar 2) wNil)))))
def w_first_wrong (z : Ad) : WS := (wRet (wOp dIx (wCallP (S_wrong_in z 16) 3 (fun ds _ => ds) (wCons (wVar 0) (wCons (wTup wNil) (wCons (wC (.int 0)) wNil)))) (wC (.int 0))))
def w_size_in (z : Ad) (n : Nat) : WS := (wSeq (wAsg (wC (.int 0)) (gN 1))
  (wSeq (wFor (iTupD (wVar 0)) (gN 2) (wSeq (wAsg (wCallP (S_size_in z n) 1 (fun ds _ => ds) (wCons (wCallP (S_inner_of z) 1 (fun ds _ => ds) (wCons (wVar 2) wNil)) wNil)) (gN 3))
  (wAsg (wOp (dAdd false) (wVar 1) (wIf (wTest (wOp (dEq fun b => b) (wOp dIx (wVar 2) (wC (.int 0))) (wC (.str "repeat")))) (wOp (dMul false) (wOp dIx (wVar 2) (wC (.int 1))) (wVar 3)) (wOp (dAdd false) (wC (.int 1)) (wVar 3)))) (gN 1))))
  (wRet (wVar 1))))
def w_bytes_in (z : Ad) (n : Nat) : WS := (wSeq (wAsg (wC (.int 0)) (gN 1))
  (wSeq (wFor (iTupD (wVar 0)) (gN 2) (wAsg (wOp (dAdd false) (wVar 1) (wIf (wTest (wOp (dEq fun b => b) (wOp dIx (wVar 2) (wC (.int 0))) (wC (.str "repeat")))) (wOp (dMul false) (wOp dIx (wVar 2) (wC (.int 1))) (wCallP (S_bytes_in z n) 1 (fun ds _ => ds) (wCons (wOp dIx (wVar 2) (wC (.int 2))) wNil))) (wCallP (S_bytes_of z) 1 (fun ds _ => ds) (wCons (wVar 2) wNil)))) (gN 1)))
  (wRet (wVar 1))))
def w_reach_in (z : Ad) (n : Nat) : WS := (wSeq (wAsg (wC (.int 0)) (gN 1))
  (wSeq (wAsg (wC (.int 0)) (gN 2))
  (wSeq (wFor (iTupD (wVar 0)) (gN 3) (wIfS (wTest (wOp (dEq fun b => b) (wOp dIx (wVar 3) (wC (.int 0))) (wC (.str "fork")))) (wAsg (wB dMax2 (wCons (wVar 2) (wCons (wOp (dAdd false) (wVar 1) (wCallP (S_reach_in z n) 1 (fun ds _ => ds) (wCons (wOp dIx (wVar 3) (wC (.int 1))) wNil))) wNil))) (gN 2)) (wIfS (wAnd (wTest (wOp (dEq fun b => b) (wOp dIx (wVar 3) (wC (.int 0))) (wC (.str "repeat")))) (wTest (wOp (dCmpI fun i j => decide (j < i)) (wOp dIx (wVar 3) (wC (.int 1))) (wC (.int 0))))) (wSeq (wAsg (wCallP (S_bytes_in z 16) 1 (fun ds _ => ds) (wCons (wOp dIx (wVar 3) (wC (.int 2))) wNil)) (gN 4))
  (wSeq (wAsg (wB dMax2 (wCons (wVar 2) (wCons (wOp (dAdd false) (wOp (dAdd false) (wVar 1) (wOp (dMul false) (wOp dSub (wOp dIx (wVar 3) (wC (.int 1))) (wC (.int 1))) (wVar 4))) (wCallP (S_reach_in z n) 1 (fun ds _ => ds) (wCons (wOp dIx (wVar 3) (wC (.int 2))) wNil))) wNil))) (gN 2))
  (wAsg (wOp (dAdd false) (wVar 1) (wOp (dMul false) (wOp dIx (wVar 3) (wC (.int 1))) (wVar 4))) (gN 1)))) (wAsg (wOp (dAdd false) (wVar 1) (wCallP (S_bytes_of z) 1 (fun ds _ => ds) (wCons (wVar 3) wNil))) (gN 1)))))
  (wRet (wB dMax2 (wCons (wVar 2) (wCons (wVar 1) wNil)))))))
def w_unrolled_in (z : Ad) (n : Nat) : WS := (wSeq (wAsg (wLst true wNil) (gN 1))
  (wSeq (wFor (iTupD (wVar 0)) (gN 2) (wIfS (wTest (wOp (dEq fun b => b) (wOp dIx (wVar 2) (wC (.int 0))) (wC (.str "repeat")))) (wExpr (wMethT isL dExtend (wVar 1) (wCons (wOp (dMul false) (wB (dListOf false) (wCons (wCallP (S_unrolled_in z n) 1 (fun ds _ => ds) (wCons (wOp dIx (wVar 2) (wC (.int 2))) wNil)) wNil)) (wOp dIx (wVar 2) (wC (.int 1)))) wNil))) (wExpr (wMethT isL dAppend (wVar 1) (wCons (wIf (wTest (wOp (dEq fun b => b) (wOp dIx (wVar 2) (wC (.int 0))) (wC (.str "fork")))) (wTup (wCons (wC (.str "fork")) (wCons (wCallP (S_unrolled_in z n) 1 (fun ds _ => ds) (wCons (wOp dIx (wVar 2) (wC (.int 1))) wNil)) wNil))) (wVar 2)) wNil)))))
  (wRet (wB dTupOf (wCons (wVar 1) wNil)))))
def w_words_in (z : Ad) : WS := (wRet (wB dTupOf (wCons (wLc false (iSeq (wCallP (S_walked z 16) 2 (fun ds _ => ds) (wCons (wVar 0) (wCons (wTup wNil) wNil)))) (gT 2 (gsN [1, 2])) wYes (wOp dIx (wVar 2) (wC (.int 0))) [1, 2]) wNil)))
def w_Program___init__ (z : Ad) : WS := (wSeq (wAsg (wCallP (S_first_wrong z) 1 (fun ds _ => ds) (wCons (wVar 1) wNil)) (gN 2))
  (wSeq (wIfS (wTest (wOp (dIsN fun b => !b) (wVar 2) (wC .non))) wNever wSkip)
  (wSeq (wAsg (wCallP (S_size_in z 16) 1 (fun ds _ => ds) (wCons (wVar 1) wNil)) (gN 3))
  (wSeq (wIfS (wTest (wOp (dCmpI fun i j => decide (j < i)) (wVar 3) (wC (.int 2000)))) wNever wSkip)
  (wSeq (wAsg (wCallP (S_reach_in z 16) 1 (fun ds _ => ds) (wCons (wVar 1) wNil)) (gN 4))
  (wSeq (wIfS (wTest (wOp (dCmpI fun i j => decide (j < i)) (wVar 4) (wC (.int 2000)))) wNever wSkip)
  (wOrS (wSetF z.Program "held" (wVar 0) (wVar 1)) (wSetF z.LineProgram "held" (wVar 0) (wVar 1)))))))))
def w_Program_of (z : Ad) : WS := (wSeq (wIfS (wNot (wTest (wB dIsi (wCons (wVar 1) (wCons (wC (.ty "tuple")) wNil))))) wNever wSkip)
  (wRet (wOrE (wMakeVS z.Program (starS 1 (S_Program___init__ z)) 0 (wVar 1)) (wMakeVS z.LineProgram (starS 1 (S_Program___init__ z)) 0 (wVar 1)))))
def w_Program_body (z : Ad) : WS := (wRet (wOrE (wFld z.Program "held" (wVar 0)) (wFld z.LineProgram "held" (wVar 0))))
def w_Program_mode (z : Ad) : WS := (wRet (wOrE (wCon z.Program "MODE" (.str "full") (wVar 0)) (wCon z.LineProgram "MODE" (.str "line") (wVar 0))))
def w_Program_size (z : Ad) : WS := (wRet (wCallP (S_size_in z 16) 1 (fun ds _ => ds) (wCons (wOrE (wFld z.Program "held" (wVar 0)) (wFld z.LineProgram "held" (wVar 0))) wNil)))
def w_Program_reach (z : Ad) : WS := (wRet (wCallP (S_reach_in z 16) 1 (fun ds _ => ds) (wCons (wOrE (wFld z.Program "held" (wVar 0)) (wFld z.LineProgram "held" (wVar 0))) wNil)))
def w_Program_unrolled (z : Ad) : WS := (wRet (wCallP (S_unrolled_in z 16) 1 (fun ds _ => ds) (wCons (wOrE (wFld z.Program "held" (wVar 0)) (wFld z.LineProgram "held" (wVar 0))) wNil)))
def w_Program_words (z : Ad) : WS := (wRet (wCallP (S_words_in z) 1 (fun ds _ => ds) (wCons (wCallP (S_unrolled_in z 16) 1 (fun ds _ => ds) (wCons (wOrE (wFld z.Program "held" (wVar 0)) (wFld z.LineProgram "held" (wVar 0))) wNil)) wNil)))
def w_program_in (z : Ad) : WS := (wRet (wIf (wTest (wOp (dEq fun b => b) (wVar 0) (wC (.str "line")))) (wMakeS z.LineProgram (starS 1 (S_Program___init__ z)) (wVar 1)) (wMakeS z.Program (starS 1 (S_Program___init__ z)) (wVar 1))))
def w_Walk___init__ (z : Ad) : WS := (wSeq (wSetF z.Walk "ends_lines" (wVar 0) (wOp (dEq fun b => b) (wOrE (wProp z.Program (S_Program_mode z) (wVar 1)) (wProp z.LineProgram (S_Program_mode z) (wVar 1))) (wC (.str "line"))))
  (wSeq (wSetF z.Walk "seen" (wVar 0) (wLst true wNil))
  (wSeq (wSetF z.Walk "noted" (wVar 0) (wLst true wNil))
  (wSeq (wSetF z.Walk "own_written" (wVar 0) (wC (.int 0)))
  (wSetF z.Walk "behind" (wVar 0) (wMet z.Walk "follow" (S_Walk_follow z 16) (wVar 0) (wCons (wOrE (wProp z.Program (S_Program_unrolled z) (wVar 1)) (wProp z.LineProgram (S_Program_unrolled z) (wVar 1))) (wCons (wTup (wCons (wC (.int 1)) (wCons (wC (.int 0)) (wCons (wC (.bl true)) wNil)))) wNil))))))))
def w_Walk_follow (z : Ad) (n : Nat) : WS := (wSeq (wFor (iTupD (wVar 1)) (gN 3) (wAsg (wMet z.Walk "passed" (S_Walk_passed z n) (wVar 0) (wCons (wVar 3) (wCons (wVar 2) wNil))) (gN 2)))
  (wRet (wVar 2)))
def w_Walk_passed (z : Ad) (n : Nat) : WS := (wSeq (wAsg (wVar 2) (gT 3 (gsCons (gN 3) (gsCons (gN 4) (gsCons (gN 5) gsNil)))))
  (wSeq (wAsg (wB dLen (wCons (wFld z.Walk "seen" (wVar 0)) wNil)) (gN 6))
  (wSeq (wExpr (wMethT isL dAppend (wFld z.Walk "seen" (wVar 0)) (wCons (wTup (wCons (wVar 3) (wCons (wIf (wTest (wOp (dCmpI fun i j => decide (j < i)) (wVar 3) (wC (.int 0)))) (wVar 4) (wC .non)) wNil))) wNil)))
  (wSeq (wAugF z.Walk "own_written" (wVar 0) (wOp (dMul false) (wVar 3) (wCallP (S_bytes_of z) 1 (fun ds _ => ds) (wCons (wVar 1) wNil))) dAddI)
  (wSeq (wMatch (wOp dIx (wVar 1) (wC (.int 0))) [((some ["fork"]), (wSeq (wExpr (wMet z.Walk "note" (S_Walk_note z) (wVar 0) (wCons (wVar 6) (wCons (wVar 2) (wCons (wVar 3) wNil)))))
  (wSeq (wExpr (wMet z.Walk "follow" (S_Walk_follow z n) (wVar 0) (wCons (wOp dIx (wVar 1) (wC (.int 1))) (wCons (wVar 2) wNil))))
  (wRet (wVar 2))))),
  ((some ["both"]), (wSeq (wExpr (wMet z.Walk "note" (S_Walk_note z) (wVar 0) (wCons (wVar 6) (wCons (wVar 2) (wCons (wVar 3) wNil)))))
  (wRet (wTup (wCons (wOp (dMul false) (wC (.int 2)) (wVar 3)) (wCons (wVar 4) (wCons (wVar 5) wNil))))))),
  ((some ["drop", "quit"]), (wExpr (wMet z.Walk "note" (S_Walk_note z) (wVar 0) (wCons (wVar 6) (wCons (wVar 2) (wCons (wNeg (wVar 3)) wNil))))))])
  (wRet (wMet z.Walk "left" (S_Walk_left z) (wVar 0) (wCons (wVar 1) (wCons (wVar 2) wNil)))))))))
def w_Walk_left (z : Ad) : WS := (wSeq (wAsg (wVar 2) (gT 3 (gsCons (gN 3) (gsCons (gN 4) (gsCons (gN 5) gsNil)))))
  (wSeq (wAsg (wOp dIx (wVar 1) (wC (.int 0))) (gN 6))
  (wSeq (wIfS (wTest (wOp (dIn false) (wVar 6) (wTup (wCons (wC (.str "exit")) (wCons (wC (.str "quit")) wNil))))) (wRet (wTup (wCons (wC (.int 0)) (wCons (wVar 4) (wCons (wVar 5) wNil))))) wSkip)
  (wSeq (wIfS (wOr (wTest (wOp (dIn false) (wVar 6) (wTup (wCons (wC (.str "flush")) (wCons (wC (.str "drop")) wNil))))) (wAnd (wTest (wOp (dEq fun b => b) (wVar 6) (wC (.str "line")))) (wTruth (wFld z.Walk "ends_lines" (wVar 0))))) (wRet (wTup (wCons (wVar 3) (wCons (wC (.int 0)) (wCons (wC (.bl false)) wNil))))) wSkip)
  (wRet (wTup (wCons (wVar 3) (wCons (wOp (dAdd false) (wVar 4) (wCallP (S_bytes_of z) 1 (fun ds _ => ds) (wCons (wVar 1) wNil))) (wCons (wVar 5) wNil)))))))))
def w_Walk_note (z : Ad) : WS := (wSeq (wAsg (wVar 2) (gT 3 (gsCons (gN 4) (gsCons (gN 5) (gsCons (gN 6) gsNil)))))
  (wIfS (wTest (wOp (dCmpI fun i j => decide (j < i)) (wVar 4) (wC (.int 0)))) (wExpr (wMethT isL dAppend (wFld z.Walk "noted" (wVar 0)) (wCons (wTup (wCons (wVar 1) (wCons (wVar 5) (wCons (wVar 3) (wCons (wVar 6) wNil))))) wNil))) wSkip))
def w_visits (z : Ad) : WS := (wRet (wB dTupOf (wCons (wFld z.Walk "seen" (wMake z.Walk (S_Walk___init__ z) (wCons (wVar 0) wNil))) wNil)))
def w_written (z : Ad) : WS := (wRet (wFld z.Walk "own_written" (wMake z.Walk (S_Walk___init__ z) (wCons (wVar 0) wNil))))
def w_copies (z : Ad) : WS := (wRet (wOp dIx (wFld z.Walk "behind" (wMake z.Walk (S_Walk___init__ z) (wCons (wVar 0) wNil))) (wC (.int 0))))
def w_end_of_walk (z : Ad) : WS := (wSeq (wAsg (wFld z.Walk "behind" (wVar 0)) (gT 3 (gsCons (gN 1) (gsCons (gN 2) (gsCons (gN 3) gsNil)))))
  (wRet (wIf (wTest (wOp (dCmpI fun i j => decide (j < i)) (wVar 1) (wC (.int 0)))) (wTup (wCons (wVar 3) (wCons (wVar 2) wNil))) (wC .non))))
def w_end_of (z : Ad) : WS := (wRet (wCallP (S_end_of_walk z) 1 (fun ds _ => ds) (wCons (wMake z.Walk (S_Walk___init__ z) (wCons (wVar 0) wNil)) wNil)))
def w_events (z : Ad) : WS := (wRet (wLc false (iSeq (wFld z.Walk "noted" (wMake z.Walk (S_Walk___init__ z) (wCons (wVar 0) wNil)))) (gT 4 (gsN [1, 2, 3, 4])) (wTest (wOp (dCmpI fun i j => decide (j < i)) (wVar 2) (wC (.int 0)))) (wTup (wCons (wVar 1) (wCons (wVar 2) (wCons (wVar 3) wNil)))) [1, 2, 3, 4]))
def w_early_events (z : Ad) : WS := (wRet (wLc false (iSeq (wFld z.Walk "noted" (wMake z.Walk (S_Walk___init__ z) (wCons (wVar 0) wNil)))) (gT 4 (gsN [1, 2, 3, 4])) (wTruth (wVar 4)) (wTup (wCons (wVar 1) (wCons (wVar 2) (wCons (wVar 3) wNil)))) [1, 2, 3, 4]))
def w_late_events (z : Ad) : WS := (wRet (wLc false (iSeq (wFld z.Walk "noted" (wMake z.Walk (S_Walk___init__ z) (wCons (wVar 0) wNil)))) (gN 1) (wAnd (wTest (wOp (dCmpI fun i j => decide (j < i)) (wOp dIx (wVar 1) (wC (.int 1))) (wC (.int 0)))) (wNot (wTruth (wOp dIx (wVar 1) (wC (.int 3)))))) (wSl false (wVar 1) woNone (woSome (wC (.int 3)))) [1]))
def w_losses (z : Ad) : WS := (wSeq (wAsg (wCallP (S_visits z) 1 (fun ds _ => ds) (wCons (wVar 0) wNil)) (gN 1))
  (wRet (wLc true (iNum (wCons (wOrE (wProp z.Program (S_Program_words z) (wVar 0)) (wProp z.LineProgram (S_Program_words z) (wVar 0))) wNil)) (gT 2 (gsN [2, 3])) (wAnd (wTest (wOp (dIn false) (wVar 3) (wTup (wCons (wC (.str "drop")) (wCons (wC (.str "quit")) wNil))))) (wTest (wOp (dCmpI fun i j => decide (j < i)) (wOp dIx (wOp dIx (wVar 1) (wVar 2)) (wC (.int 0))) (wC (.int 0))))) (wVar 2) [2, 3])))
def w_processes (z : Ad) : WS := (wSeq (wAsg (wCallP (S_visits z) 1 (fun ds _ => ds) (wCons (wVar 0) wNil)) (gN 1))
  (wRet (wOp (dAdd false) (wC (.int 1)) (wB dSum (wCons (wLc false (iNum (wCons (wOrE (wProp z.Program (S_Program_words z) (wVar 0)) (wProp z.LineProgram (S_Program_words z) (wVar 0))) wNil)) (gT 2 (gsN [2, 3])) (wTest (wOp (dIn false) (wVar 3) (wTup (wCons (wC (.str "fork")) (wCons (wC (.str "both")) wNil))))) (wOp dIx (wOp dIx (wVar 1) (wVar 2)) (wC (.int 0))) [2, 3]) wNil)))))
end PK
namespace PK
open PySem PySem.Spec L2 C8 DL
theorem p_is_integer (z : Ad) : ∀ ds h Q X, S_is_integer z ds h Q X → w_is_integer z (endsD Q X) (startD 1 ds) h := pr_isInt
theorem len_is_integer (z : Ad) : ∀ ds h Q X, S_is_integer z ds h Q X → ds.length = 1 := len_isInt
theorem mo_is_integer (z : Ad) : MoF (S_is_integer z) := mo_isInt
theorem p_is_between (z : Ad) : ∀ ds h Q X, S_is_between z ds h Q X → w_is_between z (endsD Q X) (startD 3 ds) h := pr_isBtw
theorem len_is_between (z : Ad) : ∀ ds h Q X, S_is_between z ds h Q X → ds.length = 3 := len_isBtw
theorem mo_is_between (z : Ad) : MoF (S_is_between z) := mo_isBtw
theorem len_is_head (z : Ad) : ∀ ds h Q X, S_is_head z ds h Q X → ds.length = 1 := fun _ _ _ _ ⟨_, e, _⟩ => by rw [e]; rfl
theorem mo_is_head (z : Ad) : MoF (S_is_head z) := fun _ _ _ _ _ _ hq _ ⟨a, e, o, q⟩ => ⟨a, e, o, hq _ _ q⟩
theorem len_inner_of (z : Ad) : ∀ ds h Q X, S_inner_of z ds h Q X → ds.length = 1 := fun _ _ _ _ ⟨_, e, _⟩ => by rw [e]; rfl
theorem mo_inner_of (z : Ad) : MoF (S_inner_of z) := fun _ _ _ _ _ _ hq _ ⟨a, e, o, q⟩ => ⟨a, e, o, hq _ _ q⟩
theorem len_bytes_of (z : Ad) : ∀ ds h Q X, S_bytes_of z ds h Q X → ds.length = 1 := fun _ _ _ _ ⟨_, e, _⟩ => by rw [e]; rfl
theorem mo_bytes_of (z : Ad) : MoF (S_bytes_of z) := fun _ _ _ _ _ _ hq _ ⟨a, e, o, q⟩ => ⟨a, e, o, hq _ _ q⟩
/-! things -/
def isStrD : D → Bool
  | .str _ => true
  | _ => false
def isIntB : D → Bool
  | .int _ => true
  | .bl _ => true
  | _ => false
def isBl : D → Bool
  | .bl _ => true
  | _ => false
section
variable {x : D} {h : AH} {Q : KD}
theorem go_tup (hx : th x = true) (q : Q (.bl (isTup x)) h) : dIsi [x, .ty "tuple"] h Q := by
  cases x <;> first | exact ⟨_, _, _, _, rfl, rfl, rfl, q⟩ | (simp [th] at hx)
theorem go_str (hx : th x = true) (q : Q (.bl (isStrD x)) h) : dIsi [x, .ty "str"] h Q := by
  cases x <;> first | exact ⟨_, _, _, _, rfl, rfl, rfl, q⟩ | (simp [th] at hx)
theorem go_int (hx : th x = true) (q : Q (.bl (isIntB x)) h) : dIsi [x, .ty "int"] h Q := by
  cases x <;> first | exact ⟨_, _, _, _, rfl, rfl, rfl, q⟩ | (simp [th] at hx)
theorem go_bl (hx : th x = true) (q : Q (.bl (isBl x)) h) : dIsi [x, .ty "bool"] h Q := by
  cases x <;> first | exact ⟨_, _, _, _, rfl, rfl, rfl, q⟩ | (simp [th] at hx)
theorem ty_th (hx : th x = true) : ∃ t, tyD h x = some t := by
  cases x <;> first | exact ⟨_, rfl⟩ | (simp [th] at hx)
end
theorem ths_mem : ∀ {xs : List D}, ths xs = true → ∀ x ∈ xs, th x = true
  | [], _, x, h => by cases h
  | y :: ys, hx, x, h => by
    rw [ths, Bool.and_eq_true] at hx
    rcases List.mem_cons.mp h with rfl | h
    · exact hx.1
    · exact ths_mem hx.2 x h
theorem th_tup {xs : List D} (h : th (.tup xs) = true) : xs.length ≤ 1000 ∧ ∀ x ∈ xs, th x = true := by
  rw [th, Bool.and_eq_true, decide_eq_true_iff] at h
  exact ⟨h.1, ths_mem h.2⟩
theorem deps_mem : ∀ {xs : List D} {x : D}, x ∈ xs → dep x + 1 ≤ deps xs
  | y :: ys, x, h => by
    rw [deps]
    rcases List.mem_cons.mp h with rfl | h
    · exact Nat.le_max_left ..
    · exact Nat.le_trans (deps_mem h) (Nat.le_max_right ..)
theorem dep_tup {xs : List D} {x : D} (h : x ∈ xs) : dep x + 1 ≤ dep (.tup xs) := by rw [dep]; exact deps_mem h
theorem dep_nil : dep (.tup []) = 0 := by rw [dep, deps]
theorem th_nil : th (.tup []) = true := by rw [th, ths]; rfl
/-! is_head -/
theorem star2 {y : D} {ps : List D} : (y :: ps).take 1 ++ [D.lst (((y :: ps).drop 1).take ((y :: ps).length + 1 - 2))] ++ ((y :: ps).drop 1).drop ((y :: ps).length + 1 - 2) = [y, .lst ps] := by
  have e : (y :: ps).length + 1 - 2 = ps.length := by simp
  rw [e]
  simp
theorem u_gstar {n i : Nat} {t : WGs} {d : D} {ρ : EnvD} {h : AH} {Q : EnvD → AH → Prop} {X : KX} : gStarD n i t d ρ h Q X = ∃ xs, d = .tup xs ∧ i < n ∧ n ≤ xs.length + 1 ∧ xs.length ≤ 16384 ∧ t (xs.take i ++ [.lst ((xs.drop i).take (xs.length + 1 - n))] ++ (xs.drop i).drop (xs.length + 1 - n)) ρ h Q X := rfl
theorem isi_in {w : Str} {h : AH} {Q : KD} (q : Q (.bl (bare w)) h) : dIn false (.str w) (.tup [.str "line", .str "flush", .str "drop", .str "both", .str "exit", .str "quit"]) h Q := ⟨_, rfl, rfl, rfl, q⟩
theorem p_is_head (z : Ad) : ∀ ds h Q X, S_is_head z ds h Q X → w_is_head z (endsD Q X) (startD 3 ds) h := by
  rintro ds h Q X ⟨x, rfl, hx, q⟩
  show w_is_head z (endsD Q X) [some x, none, none] h
  unfold w_is_head
  ((try dsimp only); rw [u_seq]; (try simp only [u_asg, u_gN, u_ret, u_retN, u_skip, u_expr, u_ifs, u_c, u_op, u_neg, u_test, u_and, u_or, u_not, u_if, u_nil, u_cons, u_tup, u_lst, u_callP, u_call, u_b, u_chain, u_andV, u_addI, u_subI, u_mulI, u_divI, u_modI, u_powI, u_cmpI, u_eqI, u_eqS, u_eqB, u_abs, u_intI, u_intB, u_newT, u_newF, u_isN, u_notN, wVar, List.set_cons_zero, List.set_cons_succ, List.getElem?_cons_zero, List.getElem?_cons_succ, List.length_cons, List.length_nil, u_lc, u_for, u_r1, u_r2, u_r3, u_num, u_notV, u_yes, u_w0, u_w1, u_dput, u_get2, u_dget, u_prop, u_fld, u_setF, u_make, u_makeS, u_met, u_calO, u_orT, u_tupIt, u_dc, u_maxDd, u_dnew, u_tupi, ix_p0, ix_p1, wSl, woNone, woSome]))
  refine go_tup hx ?_
  cases x with
  | tup xs =>
    obtain ⟨hl, hm⟩ := th_tup hx
    simp only [isTup, Bool.not_true, Bool.false_eq_true, if_false]
    simp only [u_lenT]
    cases xs with
    | nil => exact fin_of q
    | cons y ps =>
      have hy := hm y (List.mem_cons_self ..)
      have n0 : decide ((((y :: ps).length : Nat) : Int) = 0) = false := decide_eq_false (by rw [List.length_cons]; omega)
      rw [u_eqI, n0]
      simp only [Bool.false_eq_true, if_false]
      rw [u_ixTd at0]
      refine go_str hy ?_
      cases y with
      | str w =>
        simp only [isStrD, Bool.not_true, Bool.false_eq_true, if_false]
        ((try dsimp only); rw [u_seq]; (try simp only [u_asg, u_gN, u_ret, u_retN, u_skip, u_expr, u_ifs, u_c, u_op, u_neg, u_test, u_and, u_or, u_not, u_if, u_nil, u_cons, u_tup, u_lst, u_callP, u_call, u_b, u_chain, u_andV, u_addI, u_subI, u_mulI, u_divI, u_modI, u_powI, u_cmpI, u_eqI, u_eqS, u_eqB, u_abs, u_intI, u_intB, u_newT, u_newF, u_isN, u_notN, wVar, List.set_cons_zero, List.set_cons_succ, List.getElem?_cons_zero, List.getElem?_cons_succ, List.length_cons, List.length_nil, u_lc, u_for, u_r1, u_r2, u_r3, u_num, u_notV, u_yes, u_w0, u_w1, u_dput, u_get2, u_dget, u_prop, u_fld, u_setF, u_make, u_makeS, u_met, u_calO, u_orT, u_tupIt, u_dc, u_maxDd, u_dnew, u_tupi, ix_p0, ix_p1, wSl, woNone, woSome]))
        rw [u_gstar]
        refine ⟨_, rfl, by decide, by simp, Nat.le_trans hl (by decide), ?_⟩
        rw [star2]
        refine ⟨_, _, rfl, _, _, rfl, rfl, ?_⟩
        have q : Q (.bl (headL (.str w :: ps))) h := q
        unfold headL at q
        dsimp only at q
        ((try dsimp only); rw [u_seq]; (try simp only [u_asg, u_gN, u_ret, u_retN, u_skip, u_expr, u_ifs, u_c, u_op, u_neg, u_test, u_and, u_or, u_not, u_if, u_nil, u_cons, u_tup, u_lst, u_callP, u_call, u_b, u_chain, u_andV, u_addI, u_subI, u_mulI, u_divI, u_modI, u_powI, u_cmpI, u_eqI, u_eqS, u_eqB, u_abs, u_intI, u_intB, u_newT, u_newF, u_isN, u_notN, wVar, List.set_cons_zero, List.set_cons_succ, List.getElem?_cons_zero, List.getElem?_cons_succ, List.length_cons, List.length_nil, u_lc, u_for, u_r1, u_r2, u_r3, u_num, u_notV, u_yes, u_w0, u_w1, u_dput, u_get2, u_dget, u_prop, u_fld, u_setF, u_make, u_makeS, u_met, u_calO, u_orT, u_tupIt, u_dc, u_maxDd, u_dnew, u_tupi, ix_p0, ix_p1, wSl, woNone, woSome]))
        refine isi_in ?_
        dsimp only
        by_cases c1 : bare w = true
        · rw [if_pos c1] at q ⊢
          try simp only [u_asg, u_gN, u_ret, u_retN, u_skip, u_expr, u_ifs, u_c, u_op, u_neg, u_test, u_and, u_or, u_not, u_if, u_nil, u_cons, u_tup, u_lst, u_callP, u_call, u_b, u_chain, u_andV, u_addI, u_subI, u_mulI, u_divI, u_modI, u_powI, u_cmpI, u_eqI, u_eqS, u_eqB, u_abs, u_intI, u_intB, u_newT, u_newF, u_isN, u_notN, wVar, List.set_cons_zero, List.set_cons_succ, List.getElem?_cons_zero, List.getElem?_cons_succ, List.length_cons, List.length_nil, u_lc, u_for, u_r1, u_r2, u_r3, u_num, u_notV, u_yes, u_w0, u_w1, u_dput, u_get2, u_dget, u_prop, u_fld, u_setF, u_make, u_makeS, u_met, u_calO, u_orT, u_tupIt, u_dc, u_maxDd, u_dnew, u_tupi, ix_p0, ix_p1, wSl, woNone, woSome]
          refine len_of rfl ?_
          try simp only [u_asg, u_gN, u_ret, u_retN, u_skip, u_expr, u_ifs, u_c, u_op, u_neg, u_test, u_and, u_or, u_not, u_if, u_nil, u_cons, u_tup, u_lst, u_callP, u_call, u_b, u_chain, u_andV, u_addI, u_subI, u_mulI, u_divI, u_modI, u_powI, u_cmpI, u_eqI, u_eqS, u_eqB, u_abs, u_intI, u_intB, u_newT, u_newF, u_isN, u_notN, wVar, List.set_cons_zero, List.set_cons_succ, List.getElem?_cons_zero, List.getElem?_cons_succ, List.length_cons, List.length_nil, u_lc, u_for, u_r1, u_r2, u_r3, u_num, u_notV, u_yes, u_w0, u_w1, u_dput, u_get2, u_dget, u_prop, u_fld, u_setF, u_make, u_makeS, u_met, u_calO, u_orT, u_tupIt, u_dc, u_maxDd, u_dnew, u_tupi, ix_p0, ix_p1, wSl, woNone, woSome]
          have e : decide (((ps.length : Nat) : Int) = 0) = ps.isEmpty := by
            cases ps with
            | nil => rfl
            | cons a b => exact decide_eq_false (by rw [List.length_cons]; omega)
          rw [e]
          exact fin_of q
        · rw [if_neg c1] at q ⊢
          ((try dsimp only); rw [u_seq]; (try simp only [u_asg, u_gN, u_ret, u_retN, u_skip, u_expr, u_ifs, u_c, u_op, u_neg, u_test, u_and, u_or, u_not, u_if, u_nil, u_cons, u_tup, u_lst, u_callP, u_call, u_b, u_chain, u_andV, u_addI, u_subI, u_mulI, u_divI, u_modI, u_powI, u_cmpI, u_eqI, u_eqS, u_eqB, u_abs, u_intI, u_intB, u_newT, u_newF, u_isN, u_notN, wVar, List.set_cons_zero, List.set_cons_succ, List.getElem?_cons_zero, List.getElem?_cons_succ, List.length_cons, List.length_nil, u_lc, u_for, u_r1, u_r2, u_r3, u_num, u_notV, u_yes, u_w0, u_w1, u_dput, u_get2, u_dget, u_prop, u_fld, u_setF, u_make, u_makeS, u_met, u_calO, u_orT, u_tupIt, u_dc, u_maxDd, u_dnew, u_tupi, ix_p0, ix_p1, wSl, woNone, woSome]))
          by_cases c2 : w = "write"
          · rw [if_pos c2] at q
            rw [if_pos (decide_eq_true c2)]
            try simp only [u_asg, u_gN, u_ret, u_retN, u_skip, u_expr, u_ifs, u_c, u_op, u_neg, u_test, u_and, u_or, u_not, u_if, u_nil, u_cons, u_tup, u_lst, u_callP, u_call, u_b, u_chain, u_andV, u_addI, u_subI, u_mulI, u_divI, u_modI, u_powI, u_cmpI, u_eqI, u_eqS, u_eqB, u_abs, u_intI, u_intB, u_newT, u_newF, u_isN, u_notN, wVar, List.set_cons_zero, List.set_cons_succ, List.getElem?_cons_zero, List.getElem?_cons_succ, List.length_cons, List.length_nil, u_lc, u_for, u_r1, u_r2, u_r3, u_num, u_notV, u_yes, u_w0, u_w1, u_dput, u_get2, u_dget, u_prop, u_fld, u_setF, u_make, u_makeS, u_met, u_calO, u_orT, u_tupIt, u_dc, u_maxDd, u_dnew, u_tupi, ix_p0, ix_p1, wSl, woNone, woSome]
            refine len_of rfl ?_
            try simp only [u_asg, u_gN, u_ret, u_retN, u_skip, u_expr, u_ifs, u_c, u_op, u_neg, u_test, u_and, u_or, u_not, u_if, u_nil, u_cons, u_tup, u_lst, u_callP, u_call, u_b, u_chain, u_andV, u_addI, u_subI, u_mulI, u_divI, u_modI, u_powI, u_cmpI, u_eqI, u_eqS, u_eqB, u_abs, u_intI, u_intB, u_newT, u_newF, u_isN, u_notN, wVar, List.set_cons_zero, List.set_cons_succ, List.getElem?_cons_zero, List.getElem?_cons_succ, List.length_cons, List.length_nil, u_lc, u_for, u_r1, u_r2, u_r3, u_num, u_notV, u_yes, u_w0, u_w1, u_dput, u_get2, u_dget, u_prop, u_fld, u_setF, u_make, u_makeS, u_met, u_calO, u_orT, u_tupIt, u_dc, u_maxDd, u_dnew, u_tupi, ix_p0, ix_p1, wSl, woNone, woSome]
            match ps, hm, q with
            | [], _, q => exact fin_of q
            | [x], hm, q =>
              have hx1 := hm x (by simp)
              obtain ⟨t, ht⟩ := ty_th (h := h) hx1
              have d1 : decide ((([x] : List D).length : Int) = 1) = true := rfl
              rw [d1]
              simp only [if_true]
              rw [u_ixLd at0]
              exact ⟨trivial, x, t, 1, 2000, rfl, ht, fin_of q⟩
            | x :: y :: ps, _, q =>
              have d1 : decide (((x :: y :: ps).length : Int) = 1) = false := decide_eq_false (by simp only [List.length_cons]; omega)
              rw [d1]
              exact fin_of q
          · rw [if_neg c2] at q
            rw [if_neg (by rw [decide_eq_false c2]; decide)]
            ((try dsimp only); rw [u_seq]; (try simp only [u_asg, u_gN, u_ret, u_retN, u_skip, u_expr, u_ifs, u_c, u_op, u_neg, u_test, u_and, u_or, u_not, u_if, u_nil, u_cons, u_tup, u_lst, u_callP, u_call, u_b, u_chain, u_andV, u_addI, u_subI, u_mulI, u_divI, u_modI, u_powI, u_cmpI, u_eqI, u_eqS, u_eqB, u_abs, u_intI, u_intB, u_newT, u_newF, u_isN, u_notN, wVar, List.set_cons_zero, List.set_cons_succ, List.getElem?_cons_zero, List.getElem?_cons_succ, List.length_cons, List.length_nil, u_lc, u_for, u_r1, u_r2, u_r3, u_num, u_notV, u_yes, u_w0, u_w1, u_dput, u_get2, u_dget, u_prop, u_fld, u_setF, u_make, u_makeS, u_met, u_calO, u_orT, u_tupIt, u_dc, u_maxDd, u_dnew, u_tupi, ix_p0, ix_p1, wSl, woNone, woSome]))
            by_cases c3 : w = "fork"
            · rw [if_pos c3] at q
              rw [if_pos (decide_eq_true c3)]
              try simp only [u_asg, u_gN, u_ret, u_retN, u_skip, u_expr, u_ifs, u_c, u_op, u_neg, u_test, u_and, u_or, u_not, u_if, u_nil, u_cons, u_tup, u_lst, u_callP, u_call, u_b, u_chain, u_andV, u_addI, u_subI, u_mulI, u_divI, u_modI, u_powI, u_cmpI, u_eqI, u_eqS, u_eqB, u_abs, u_intI, u_intB, u_newT, u_newF, u_isN, u_notN, wVar, List.set_cons_zero, List.set_cons_succ, List.getElem?_cons_zero, List.getElem?_cons_succ, List.length_cons, List.length_nil, u_lc, u_for, u_r1, u_r2, u_r3, u_num, u_notV, u_yes, u_w0, u_w1, u_dput, u_get2, u_dget, u_prop, u_fld, u_setF, u_make, u_makeS, u_met, u_calO, u_orT, u_tupIt, u_dc, u_maxDd, u_dnew, u_tupi, ix_p0, ix_p1, wSl, woNone, woSome]
              refine len_of rfl ?_
              try simp only [u_asg, u_gN, u_ret, u_retN, u_skip, u_expr, u_ifs, u_c, u_op, u_neg, u_test, u_and, u_or, u_not, u_if, u_nil, u_cons, u_tup, u_lst, u_callP, u_call, u_b, u_chain, u_andV, u_addI, u_subI, u_mulI, u_divI, u_modI, u_powI, u_cmpI, u_eqI, u_eqS, u_eqB, u_abs, u_intI, u_intB, u_newT, u_newF, u_isN, u_notN, wVar, List.set_cons_zero, List.set_cons_succ, List.getElem?_cons_zero, List.getElem?_cons_succ, List.length_cons, List.length_nil, u_lc, u_for, u_r1, u_r2, u_r3, u_num, u_notV, u_yes, u_w0, u_w1, u_dput, u_get2, u_dget, u_prop, u_fld, u_setF, u_make, u_makeS, u_met, u_calO, u_orT, u_tupIt, u_dc, u_maxDd, u_dnew, u_tupi, ix_p0, ix_p1, wSl, woNone, woSome]
              match ps, hm, q with
              | [], _, q => exact fin_of q
              | [x], hm, q =>
                have hx1 := hm x (by simp)
                have d1 : decide ((([x] : List D).length : Int) = 1) = true := rfl
                rw [d1]
                simp only [if_true]
                rw [u_ixLd at0]
                exact go_tup hx1 (fin_of q)
              | x :: y :: ps, _, q =>
                have d1 : decide (((x :: y :: ps).length : Int) = 1) = false := decide_eq_false (by simp only [List.length_cons]; omega)
                rw [d1]
                exact fin_of q
            · rw [if_neg c3] at q
              rw [if_neg (by rw [decide_eq_false c3]; decide)]
              try simp only [u_asg, u_gN, u_ret, u_retN, u_skip, u_expr, u_ifs, u_c, u_op, u_neg, u_test, u_and, u_or, u_not, u_if, u_nil, u_cons, u_tup, u_lst, u_callP, u_call, u_b, u_chain, u_andV, u_addI, u_subI, u_mulI, u_divI, u_modI, u_powI, u_cmpI, u_eqI, u_eqS, u_eqB, u_abs, u_intI, u_intB, u_newT, u_newF, u_isN, u_notN, wVar, List.set_cons_zero, List.set_cons_succ, List.getElem?_cons_zero, List.getElem?_cons_succ, List.length_cons, List.length_nil, u_lc, u_for, u_r1, u_r2, u_r3, u_num, u_notV, u_yes, u_w0, u_w1, u_dput, u_get2, u_dget, u_prop, u_fld, u_setF, u_make, u_makeS, u_met, u_calO, u_orT, u_tupIt, u_dc, u_maxDd, u_dnew, u_tupi, ix_p0, ix_p1, wSl, woNone, woSome]
              by_cases c4 : w = "repeat"
              · rw [if_pos c4] at q
                rw [decide_eq_true c4]
                simp only [if_true]
                refine len_of rfl ?_
                try simp only [u_asg, u_gN, u_ret, u_retN, u_skip, u_expr, u_ifs, u_c, u_op, u_neg, u_test, u_and, u_or, u_not, u_if, u_nil, u_cons, u_tup, u_lst, u_callP, u_call, u_b, u_chain, u_andV, u_addI, u_subI, u_mulI, u_divI, u_modI, u_powI, u_cmpI, u_eqI, u_eqS, u_eqB, u_abs, u_intI, u_intB, u_newT, u_newF, u_isN, u_notN, wVar, List.set_cons_zero, List.set_cons_succ, List.getElem?_cons_zero, List.getElem?_cons_succ, List.length_cons, List.length_nil, u_lc, u_for, u_r1, u_r2, u_r3, u_num, u_notV, u_yes, u_w0, u_w1, u_dput, u_get2, u_dget, u_prop, u_fld, u_setF, u_make, u_makeS, u_met, u_calO, u_orT, u_tupIt, u_dc, u_maxDd, u_dnew, u_tupi, ix_p0, ix_p1, wSl, woNone, woSome]
                match ps, hm, q with
                | [], _, q => exact fin_of q
                | [x], _, q => exact fin_of q
                | [x, y], hm, q =>
                  have hx1 := hm x (by simp)
                  have hy1 := hm y (by simp)
                  obtain ⟨t, ht⟩ := ty_th (h := h) hx1
                  have d1 : decide ((([x, y] : List D).length : Int) = 2) = true := rfl
                  rw [d1]
                  simp only [if_true]
                  rw [u_ixLd at0]
                  refine ⟨trivial, x, t, 0, 300, rfl, ht, ?_⟩
                  dsimp only at q
                  cases cb : btw x 0 300 with
                  | false =>
                    rw [cb] at q
                    exact fin_of q
                  | true =>
                    rw [cb] at q
                    simp only [if_true]
                    rw [u_ixLd at1]
                    exact go_tup hy1 (fin_of q)
                | x :: y :: z :: ps, _, q =>
                  have d1 : decide (((x :: y :: z :: ps).length : Int) = 2) = false := decide_eq_false (by simp only [List.length_cons]; omega)
                  rw [d1]
                  exact fin_of q
              · rw [if_neg c4] at q
                rw [decide_eq_false c4]
                exact fin_of q
      | _ => exact fin_of q
  | _ => exact fin_of q
theorem big_size : 100000 ≤ sizeLine := by decide
/-- a head is a word and parts -/
theorem head_str {xs : List D} (h : headL xs = true) : ∃ w ps, xs = .str w :: ps := by
  cases xs with
  | nil => cases h
  | cons y ps =>
    cases y with
    | str w => exact ⟨w, ps, rfl⟩
    | _ => cases h
theorem bare_fork : bare "fork" = false := by decide +kernel
theorem bare_repeat : bare "repeat" = false := by decide +kernel
theorem bare_write : bare "write" = false := by decide +kernel
theorem head_fork {ps : List D} (h : headL (.str "fork" :: ps) = true) : ∃ x, ps = [x] ∧ isTup x = true := by
  unfold headL at h
  dsimp only at h
  rw [bare_fork, if_neg (by decide), if_neg (by decide), if_pos rfl] at h
  match ps, h with
  | [x], h => exact ⟨x, rfl, h⟩
theorem head_repeat {ps : List D} (h : headL (.str "repeat" :: ps) = true) : ∃ x y, ps = [x, y] ∧ btw x 0 300 = true ∧ isTup y = true := by
  unfold headL at h
  dsimp only at h
  rw [bare_repeat, if_neg (by decide), if_neg (by decide), if_neg (by decide), if_pos rfl] at h
  match ps, h with
  | [x, y], h => exact ⟨x, y, rfl, by simpa using h⟩
theorem in_two {w : Str} : inD (.str w) [.str "fork", .str "repeat"] = decide (w = "fork" ∨ w = "repeat") := by
  by_cases c1 : w = "fork"
  · subst c1; decide +kernel
  · by_cases c2 : w = "repeat"
    · subst c2; decide +kernel
    · rw [decide_eq_false (by simp [c1, c2])]
      simp [inD, eqFD, Ne.symm c1, Ne.symm c2]
theorem p_inner_of (z : Ad) : ∀ ds h Q X, S_inner_of z ds h Q X → w_inner_of z (endsD Q X) (startD 1 ds) h := by
  rintro ds h Q X ⟨xs, rfl, hh, q⟩
  show w_inner_of z (endsD Q X) [some (.tup xs)] h
  obtain ⟨w, ps, rfl⟩ := head_str hh
  unfold innD at q
  dsimp only at q
  simp only [w_inner_of, u_asg, u_gN, u_ret, u_retN, u_skip, u_expr, u_ifs, u_c, u_op, u_neg, u_test, u_and, u_or, u_not, u_if, u_nil, u_cons, u_tup, u_lst, u_callP, u_call, u_b, u_chain, u_andV, u_addI, u_subI, u_mulI, u_divI, u_modI, u_powI, u_cmpI, u_eqI, u_eqS, u_eqB, u_abs, u_intI, u_intB, u_newT, u_newF, u_isN, u_notN, wVar, List.set_cons_zero, List.set_cons_succ, List.getElem?_cons_zero, List.getElem?_cons_succ, List.length_cons, List.length_nil, u_lc, u_for, u_r1, u_r2, u_r3, u_num, u_notV, u_yes, u_w0, u_w1, u_dput, u_get2, u_dget, u_prop, u_fld, u_setF, u_make, u_makeS, u_met, u_calO, u_orT, u_tupIt, u_dc, u_maxDd, u_dnew, u_tupi, ix_p0, ix_p1, wSl, woNone, woSome]
  rw [u_ixTd at0]
  refine ⟨by decide, _, rfl, rfl, rfl, ?_⟩
  simp only [Bool.false_eq_true, if_false]
  rw [in_two]
  by_cases c : w = "fork" ∨ w = "repeat"
  · rw [if_pos c] at q
    rw [if_pos (decide_eq_true c)]
    rcases c with rfl | rfl
    · obtain ⟨x, rfl, _⟩ := head_fork hh
      exact ⟨_, _, rfl, rfl, fin_of q⟩
    · obtain ⟨x, y, rfl, _⟩ := head_repeat hh
      exact ⟨_, _, rfl, rfl, fin_of q⟩
  · rw [if_neg c] at q
    rw [if_neg (by rw [decide_eq_false c]; decide)]
    exact ⟨Nat.zero_le _, fin_of q⟩
theorem tup_of {x : D} (h : isTup x = true) : ∃ xs, x = .tup xs := by cases x <;> first | exact ⟨_, rfl⟩ | cases h
theorem head_write {ps : List D} (h : headL (.str "write" :: ps) = true) : ∃ x, ps = [x] ∧ btw x 1 2000 = true := by
  unfold headL at h
  dsimp only at h
  rw [bare_write, if_neg (by decide), if_pos rfl] at h
  match ps, h with
  | [x], h => exact ⟨x, rfl, h⟩
theorem p_bytes_of (z : Ad) : ∀ ds h Q X, S_bytes_of z ds h Q X → w_bytes_of z (endsD Q X) (startD 1 ds) h := by
  rintro ds h Q X ⟨xs, rfl, hh, q⟩
  show w_bytes_of z (endsD Q X) [some (.tup xs)] h
  obtain ⟨w, ps, rfl⟩ := head_str hh
  unfold bytD at q
  dsimp only at q
  unfold w_bytes_of
  ((try dsimp only); rw [u_seq]; (try simp only [u_asg, u_gN, u_ret, u_retN, u_skip, u_expr, u_ifs, u_c, u_op, u_neg, u_test, u_and, u_or, u_not, u_if, u_nil, u_cons, u_tup, u_lst, u_callP, u_call, u_b, u_chain, u_andV, u_addI, u_subI, u_mulI, u_divI, u_modI, u_powI, u_cmpI, u_eqI, u_eqS, u_eqB, u_abs, u_intI, u_intB, u_newT, u_newF, u_isN, u_notN, wVar, List.set_cons_zero, List.set_cons_succ, List.getElem?_cons_zero, List.getElem?_cons_succ, List.length_cons, List.length_nil, u_lc, u_for, u_r1, u_r2, u_r3, u_num, u_notV, u_yes, u_w0, u_w1, u_dput, u_get2, u_dget, u_prop, u_fld, u_setF, u_make, u_makeS, u_met, u_calO, u_orT, u_tupIt, u_dc, u_maxDd, u_dnew, u_tupi, ix_p0, ix_p1, wSl, woNone, woSome]))
  rw [u_ixTd at0]
  try simp only [u_asg, u_gN, u_ret, u_retN, u_skip, u_expr, u_ifs, u_c, u_op, u_neg, u_test, u_and, u_or, u_not, u_if, u_nil, u_cons, u_tup, u_lst, u_callP, u_call, u_b, u_chain, u_andV, u_addI, u_subI, u_mulI, u_divI, u_modI, u_powI, u_cmpI, u_eqI, u_eqS, u_eqB, u_abs, u_intI, u_intB, u_newT, u_newF, u_isN, u_notN, wVar, List.set_cons_zero, List.set_cons_succ, List.getElem?_cons_zero, List.getElem?_cons_succ, List.length_cons, List.length_nil, u_lc, u_for, u_r1, u_r2, u_r3, u_num, u_notV, u_yes, u_w0, u_w1, u_dput, u_get2, u_dget, u_prop, u_fld, u_setF, u_make, u_makeS, u_met, u_calO, u_orT, u_tupIt, u_dc, u_maxDd, u_dnew, u_tupi, ix_p0, ix_p1, wSl, woNone, woSome]
  by_cases c : w = "write"
  · subst c
    obtain ⟨x, rfl, _⟩ := head_write hh
    rw [if_pos rfl] at q
    rw [if_pos (decide_eq_true rfl), u_ixTd at1]
    exact fin_of q
  · rw [if_neg c] at q
    rw [if_neg (by rw [decide_eq_false c]; decide), u_ixTd at0]
    try simp only [u_asg, u_gN, u_ret, u_retN, u_skip, u_expr, u_ifs, u_c, u_op, u_neg, u_test, u_and, u_or, u_not, u_if, u_nil, u_cons, u_tup, u_lst, u_callP, u_call, u_b, u_chain, u_andV, u_addI, u_subI, u_mulI, u_divI, u_modI, u_powI, u_cmpI, u_eqI, u_eqS, u_eqB, u_abs, u_intI, u_intB, u_newT, u_newF, u_isN, u_notN, wVar, List.set_cons_zero, List.set_cons_succ, List.getElem?_cons_zero, List.getElem?_cons_succ, List.length_cons, List.length_nil, u_lc, u_for, u_r1, u_r2, u_r3, u_num, u_notV, u_yes, u_w0, u_w1, u_dput, u_get2, u_dget, u_prop, u_fld, u_setF, u_make, u_makeS, u_met, u_calO, u_orT, u_tupIt, u_dc, u_maxDd, u_dnew, u_tupi, ix_p0, ix_p1, wSl, woNone, woSome]
    by_cases c2 : w = "line"
    · rw [if_pos c2] at q
      rw [if_pos (decide_eq_true c2)]
      exact fin_of q
    · rw [if_neg c2] at q
      rw [if_neg (by rw [decide_eq_false c2]; decide)]
      exact fin_of q
end PK
namespace PK
open PySem PySem.Spec L2 C8 DL

/-! ### loops over what is left -/
theorem loop_rest {st : AH → Prop} {g : WG} {tb : WS} {Z : EndsD} (P : List D → EnvD → AH → Prop) (hst : ∀ l ρ h, P l ρ h → st h)
    (hs : ∀ x l ρ h (K : EnvD → AH → Prop), P (x :: l) ρ h → (∀ ρ h, P l ρ h → K ρ h) → g x ρ h (fun ρ2 h2 => tb { Z with nx := K, ct := K, bk := Z.nx } ρ2 h2) Z.ex)
    (hd : ∀ ρ h, P [] ρ h → Z.nx ρ h) : ∀ (xs : List D) (ρ : EnvD) (h : AH), P xs ρ h → loopD st g tb Z xs ρ h
  | [], ρ, h, p => ⟨hst _ _ _ p, hd _ _ p⟩
  | x :: l, ρ, h, p => ⟨hst _ _ _ p, hs x l ρ h _ p fun ρ h q => loop_rest P hst hs hd l ρ h q⟩
def numF : Nat → List D → List D
  | _, [] => []
  | i, x :: l => .tup [.int (i : Nat), x] :: numF (i + 1) l
theorem numF_get : ∀ (i : Nat) (xs : List D) (j : Nat), (numF i xs)[j]? = (xs[j]?).map fun x => D.tup [.int ((i + j : Nat) : Int), x]
  | i, [], j => by simp [numF]
  | i, x :: l, 0 => by simp [numF]
  | i, x :: l, j + 1 => by
    rw [numF, List.getElem?_cons_succ, List.getElem?_cons_succ, numF_get (i + 1) l j, show i + 1 + j = i + (j + 1) by omega]
theorem numD_F (xs : List D) : numD xs = numF 0 xs := by
  apply List.ext_getElem?
  intro j
  rw [numF_get]
  cases e : xs[j]? with
  | none =>
    have : xs.length ≤ j := List.getElem?_eq_none_iff.mp e
    rw [List.getElem?_eq_none (by rw [numD_len]; exact this)]; rfl
  | some x =>
    have l := (List.getElem?_eq_some_iff.mp e).1
    have l2 : j < (numD xs).length := by rw [numD_len]; exact l
    obtain ⟨y, hy, hd⟩ := numD_get (List.getElem?_eq_getElem l2)
    rw [List.getElem?_eq_getElem l2, hd]
    rw [hy] at e
    cases e
    simp
/-! ### typed lists -/
theorem encs_map : ∀ b : List Ac, encs b = b.map enc
  | [] => rfl
  | a :: r => by rw [encs, encs_map r]; rfl
theorem encs_app {b c : List Ac} : encs (b ++ c) = encs b ++ encs c := by rw [encs_map, encs_map, encs_map, List.map_append]
theorem encs_len {b : List Ac} : (encs b).length = b.length := by rw [encs_map, List.length_map]
theorem encs_cons {b : List Ac} {x : D} {l : List D} (h : x :: l = encs b) : ∃ a r, b = a :: r ∧ x = enc a ∧ l = encs r := by
  cases b with
  | nil => cases h
  | cons a r => rw [encs] at h; cases h; exact ⟨a, r, rfl, rfl, rfl⟩
theorem encs_nil {b : List Ac} (h : [] = encs b) : b = [] := by
  cases b with
  | nil => rfl
  | cons a r => rw [encs] at h; cases h
theorem okB_cons {a : Ac} {r : List Ac} (h : okB (a :: r) = true) : okA a = true ∧ okB r = true := by
  rw [okB, Bool.and_eq_true] at h; exact h
theorem okB_app : ∀ {b c : List Ac}, okB (b ++ c) = (okB b && okB c)
  | [], c => by simp [okB]
  | a :: r, c => by rw [List.cons_append, okB, okB, okB_app, Bool.and_assoc]
theorem dptB_app : ∀ {b c : List Ac}, dptB (b ++ c) = max (dptB b) (dptB c)
  | [], c => by simp [dptB]
  | a :: r, c => by rw [List.cons_append, dptB, dptB, dptB_app]; omega
theorem cntB_app : ∀ {b c : List Ac}, cntB (b ++ c) = cntB b + cntB c
  | [], c => by simp [cntB]
  | a :: r, c => by rw [List.cons_append, cntB, cntB, cntB_app]; omega
theorem sizB_app : ∀ {b c : List Ac}, sizB (b ++ c) = sizB b + sizB c
  | [], c => by simp [sizB]
  | a :: r, c => by rw [List.cons_append, sizB, sizB, sizB_app]; omega
theorem flaB_cons {a : Ac} {r : List Ac} (h : flaB (a :: r) = true) : flaA a = true ∧ flaB r = true := by
  rw [flaB, Bool.and_eq_true] at h; exact h
theorem flaB_app : ∀ {b c : List Ac}, flaB (b ++ c) = (flaB b && flaB c)
  | [], c => by simp [flaB]
  | a :: r, c => by rw [List.cons_append, flaB, flaB, flaB_app, Bool.and_assoc]
theorem okA_inn {a : Ac} (h : okA a = true) : okB (inn a) = true := by
  cases a with
  | bare w => rfl
  | write n => rfl
  | fork b => rw [okA] at h; exact h
  | rep n b => rw [okA, Bool.and_eq_true] at h; exact h.2
theorem dpt_inn {a : Ac} : dptB (inn a) < dptA a := by
  cases a with
  | bare w => rw [dptA, inn, dptB]; omega
  | write n => rw [dptA, inn, dptB]; omega
  | fork b => rw [dptA, inn]; omega
  | rep n b => rw [dptA, inn]; omega
theorem cnt_inn {a : Ac} : cntA a = cntB (inn a) + 1 := by
  cases a with
  | bare w => rw [cntA, inn, cntB]
  | write n => rw [cntA, inn, cntB]
  | fork b => rw [cntA, inn]
  | rep n b => rw [cntA, inn]
theorem len_cnt : ∀ {b : List Ac}, b.length ≤ cntB b
  | [] => Nat.le_refl _
  | a :: r => by
    have := len_cnt (b := r)
    have := cnt_inn (a := a)
    rw [List.length_cons, cntB]; omega
/-- what an action looks like -/
def parts : Ac → List D
  | .bare _ => []
  | .write n => [.int n]
  | .fork b => [.tup (encs b)]
  | .rep n b => [.int n, .tup (encs b)]
theorem enc_eq {a : Ac} : enc a = .tup (.str (word a) :: parts a) := by
  cases a <;> rw [enc, parts, word]
theorem bare_ne {w : Str} (h : bare w = true) : w ≠ "fork" ∧ w ≠ "repeat" ∧ w ≠ "write" := by
  refine ⟨?_, ?_, ?_⟩ <;> rintro rfl <;> revert h <;> decide +kernel
theorem word_fork {a : Ac} (h : okA a = true) : word a = "fork" ↔ ∃ b, a = .fork b := by
  cases a with
  | bare w => rw [okA] at h; exact ⟨fun e => absurd e (bare_ne h).1, fun ⟨b, e⟩ => by cases e⟩
  | write n => exact ⟨fun e => absurd (show ("write" : Str) = "fork" from e) (by decide), fun ⟨b, e⟩ => by cases e⟩
  | fork b => exact ⟨fun _ => ⟨b, rfl⟩, fun _ => rfl⟩
  | rep n b => exact ⟨fun e => absurd (show ("repeat" : Str) = "fork" from e) (by decide), fun ⟨b, e⟩ => by cases e⟩
theorem word_rep {a : Ac} (h : okA a = true) : word a = "repeat" ↔ ∃ n b, a = .rep n b := by
  cases a with
  | bare w => rw [okA] at h; exact ⟨fun e => absurd e (bare_ne h).2.1, fun ⟨n, b, e⟩ => by cases e⟩
  | write n => exact ⟨fun e => absurd (show ("write" : Str) = "repeat" from e) (by decide), fun ⟨n, b, e⟩ => by cases e⟩
  | fork b => exact ⟨fun e => absurd (show ("fork" : Str) = "repeat" from e) (by decide), fun ⟨n, b, e⟩ => by cases e⟩
  | rep n b => exact ⟨fun _ => ⟨n, b, rfl⟩, fun _ => rfl⟩
theorem head_ok {a : Ac} (h : okA a = true) : headL (.str (word a) :: parts a) = true := by
  cases a with
  | bare w =>
    rw [okA] at h
    unfold headL word parts; dsimp only; rw [if_pos h]; rfl
  | write n =>
    rw [okA, Bool.and_eq_true, decide_eq_true_iff, decide_eq_true_iff] at h
    unfold headL word parts; dsimp only
    rw [bare_write, if_neg (by decide), if_pos rfl]
    show (decide ((1 : Int) ≤ n) && decide ((n : Int) ≤ 2000)) = true
    rw [decide_eq_true (by omega), decide_eq_true (by omega)]; rfl
  | fork b =>
    unfold headL word parts; dsimp only
    rw [bare_fork, if_neg (by decide), if_neg (by decide), if_pos rfl]; rfl
  | rep n b =>
    rw [okA, Bool.and_eq_true, decide_eq_true_iff] at h
    unfold headL word parts; dsimp only
    rw [bare_repeat, if_neg (by decide), if_neg (by decide), if_neg (by decide), if_pos rfl]
    show (decide ((0 : Int) ≤ n) && decide ((n : Int) ≤ 300) && true) = true
    rw [decide_eq_true (by omega), decide_eq_true (by omega)]; rfl
theorem inn_ok {a : Ac} (h : okA a = true) : innD (.str (word a) :: parts a) = .tup (encs (inn a)) := by
  cases a with
  | bare w =>
    rw [okA] at h
    unfold innD word parts inn; dsimp only
    rw [if_neg (by rintro (e | e); exact (bare_ne h).1 e; exact (bare_ne h).2.1 e)]; rfl
  | write n => unfold innD word parts inn; dsimp only; rw [if_neg (by decide)]; rfl
  | fork b => unfold innD word parts inn; dsimp only; rw [if_pos (.inl rfl)]; rfl
  | rep n b => unfold innD word parts inn; dsimp only; rw [if_pos (.inr rfl)]; rfl
theorem byt_ok {a : Ac} (h : okA a = true) : bytD (.str (word a) :: parts a) = .int (byt a : Nat) := by
  cases a with
  | bare w =>
    rw [okA] at h
    unfold bytD word parts byt; dsimp only
    rw [if_neg (bare_ne h).2.2]
    by_cases c : w = "line"
    · rw [if_pos c, if_pos c]; rfl
    · rw [if_neg c, if_neg c]; rfl
  | write n => unfold bytD word parts byt; dsimp only; rw [if_pos rfl]; rfl
  | fork b => unfold bytD word parts byt; dsimp only; rw [if_neg (by decide), if_neg (by decide)]; rfl
  | rep n b => unfold bytD word parts byt; dsimp only; rw [if_neg (by decide), if_neg (by decide)]; rfl
theorem go_inn {z : Ad} {a : Ac} (h : okA a = true) {g : AH} {Q : KD} {X : KX} (q : Q (.tup (encs (inn a))) g) : S_inner_of z [enc a] g Q X :=
  ⟨_, by rw [enc_eq], head_ok h, by rw [inn_ok h]; exact q⟩
theorem go_byt {z : Ad} {a : Ac} (h : okA a = true) {g : AH} {Q : KD} {X : KX} (q : Q (.int (byt a : Nat)) g) : S_bytes_of z [enc a] g Q X :=
  ⟨_, by rw [enc_eq], head_ok h, by rw [byt_ok h]; exact q⟩
theorem ix_word {a : Ac} {g : AH} {Q : KD} : dIx (enc a) (.int 0) g Q = Q (.str (word a)) g := by rw [enc_eq, u_ixTd at0]
theorem byt_le {a : Ac} (h : okA a = true) : byt a ≤ 2000 := by
  cases a with
  | bare w => unfold byt; dsimp only; split <;> omega
  | write n => rw [okA, Bool.and_eq_true, decide_eq_true_iff, decide_eq_true_iff] at h; unfold byt; dsimp only; omega
  | fork b => exact Nat.zero_le _
  | rep n b => exact Nat.zero_le _
mutual
theorem thA_ok : ∀ {a : Ac}, okA a = true → cntA a ≤ 900 → th (enc a) = true
  | .bare w, h, _ => by rw [enc, th, ths, ths, th]; rfl
  | .write n, h, _ => by
    rw [okA, Bool.and_eq_true, decide_eq_true_iff, decide_eq_true_iff] at h
    have : ((n : Nat) : Int).natAbs < 2 ^ 64 := by omega
    rw [enc, th, ths, ths, ths, th, th, decide_eq_true this]; rfl
  | .fork b, h, c => by
    rw [okA] at h; rw [cntA] at c
    rw [enc, th, ths, ths, ths, th, thB_ok h (by omega)]; rfl
  | .rep n b, h, c => by
    rw [okA, Bool.and_eq_true, decide_eq_true_iff] at h; rw [cntA] at c
    have : ((n : Nat) : Int).natAbs < 2 ^ 64 := by omega
    rw [enc, th, ths, ths, ths, ths, th, th, decide_eq_true this, thB_ok h.2 (by omega)]; rfl
theorem thB_ok : ∀ {b : List Ac}, okB b = true → cntB b ≤ 900 → th (.tup (encs b)) = true
  | b, h, c => by
    have l := len_cnt (b := b)
    rw [th, Bool.and_eq_true, decide_eq_true_iff]
    exact ⟨by rw [encs_len]; omega, thsB_ok h c⟩
theorem thsB_ok : ∀ {b : List Ac}, okB b = true → cntB b ≤ 900 → ths (encs b) = true
  | [], _, _ => by rw [encs, ths]
  | a :: r, h, c => by
    obtain ⟨h1, h2⟩ := okB_cons h
    rw [cntB] at c
    rw [encs, ths, thA_ok h1 (by omega), thsB_ok h2 (by omega)]; rfl
end
theorem headD_ok {a : Ac} (h : okA a = true) : headD (enc a) = true := by rw [enc_eq]; exact head_ok h
end PK
namespace PK
open PySem PySem.Spec L2 C8 DL
theorem len_walked (z : Ad) (n : Nat) : ∀ ds h Q X, S_walked z n ds h Q X → ds.length = 2 := fun _ _ _ _ ⟨_, _, e, _⟩ => by rw [e]; rfl
theorem mo_walked (z : Ad) (n : Nat) : MoF (S_walked z n) := fun _ _ _ _ _ _ hq _ ⟨v0, v1, e, o0, o1, o2, q⟩ => ⟨v0, v1, e, o0, o1, o2, hq _ _ q⟩
theorem len_wrong_in (z : Ad) (n : Nat) : ∀ ds h Q X, S_wrong_in z n ds h Q X → ds.length = 3 := fun _ _ _ _ ⟨_, _, _, e, _⟩ => by rw [e]; rfl
theorem mo_wrong_in (z : Ad) (n : Nat) : MoF (S_wrong_in z n) := fun _ _ _ _ _ _ hq _ ⟨v0, v1, v2, e, o0, o1, o2, o3, q⟩ => ⟨v0, v1, v2, e, o0, o1, o2, o3, hq _ _ q⟩
theorem len_first_wrong (z : Ad) : ∀ ds h Q X, S_first_wrong z ds h Q X → ds.length = 1 := fun _ _ _ _ ⟨_, e, _⟩ => by rw [e]; rfl
theorem mo_first_wrong (z : Ad) : MoF (S_first_wrong z) := fun _ _ _ _ _ _ hq _ ⟨v0, e, o0, q⟩ => ⟨v0, e, o0, hq _ _ q⟩
theorem len_size_in (z : Ad) (n : Nat) : ∀ ds h Q X, S_size_in z n ds h Q X → ds.length = 1 := fun _ _ _ _ ⟨_, e, _⟩ => by rw [e]; rfl
theorem mo_size_in (z : Ad) (n : Nat) : MoF (S_size_in z n) := fun _ _ _ _ _ _ hq _ ⟨v0, e, o0, o1, q⟩ => ⟨v0, e, o0, o1, hq _ _ q⟩
theorem len_bytes_in (z : Ad) (n : Nat) : ∀ ds h Q X, S_bytes_in z n ds h Q X → ds.length = 1 := fun _ _ _ _ ⟨_, e, _⟩ => by rw [e]; rfl
theorem mo_bytes_in (z : Ad) (n : Nat) : MoF (S_bytes_in z n) := fun _ _ _ _ _ _ hq _ ⟨v0, e, o0, o1, q⟩ => ⟨v0, e, o0, o1, hq _ _ q⟩
theorem len_reach_in (z : Ad) (n : Nat) : ∀ ds h Q X, S_reach_in z n ds h Q X → ds.length = 1 := fun _ _ _ _ ⟨_, e, _⟩ => by rw [e]; rfl
theorem mo_reach_in (z : Ad) (n : Nat) : MoF (S_reach_in z n) := fun _ _ _ _ _ _ hq _ ⟨v0, e, o0, o1, o2, q⟩ => ⟨v0, e, o0, o1, o2, hq _ _ q⟩
theorem len_unrolled_in (z : Ad) (n : Nat) : ∀ ds h Q X, S_unrolled_in z n ds h Q X → ds.length = 1 := fun _ _ _ _ ⟨_, e, _⟩ => by rw [e]; rfl
theorem mo_unrolled_in (z : Ad) (n : Nat) : MoF (S_unrolled_in z n) := fun _ _ _ _ _ _ hq _ ⟨v0, e, o0, o1, o2, q⟩ => ⟨v0, e, o0, o1, o2, hq _ _ q⟩
theorem len_words_in (z : Ad) : ∀ ds h Q X, S_words_in z ds h Q X → ds.length = 1 := fun _ _ _ _ ⟨_, e, _⟩ => by rw [e]; rfl
theorem mo_words_in (z : Ad) : MoF (S_words_in z) := fun _ _ _ _ _ _ hq _ ⟨v0, e, o0, o1, o2, q⟩ => ⟨v0, e, o0, o1, o2, hq _ _ q⟩
theorem len_Program___init__ (z : Ad) : ∀ ds h Q X, S_Program___init__ z ds h Q X → ds.length = 2 := fun _ _ _ _ ⟨_, _, _, e, _⟩ => by rw [e]; rfl
theorem mo_Program___init__ (z : Ad) : MoF (S_Program___init__ z) := fun _ _ _ _ _ _ hq _ ⟨v0, v1, v2, e, o0, o1, q⟩ => ⟨v0, v1, v2, e, o0, o1, hq _ _ q⟩
theorem len_Program_of (z : Ad) : ∀ ds h Q X, S_Program_of z ds h Q X → ds.length = 2 := fun _ _ _ _ ⟨_, _, e, _⟩ => by rw [e]; rfl
theorem mo_Program_of (z : Ad) : MoF (S_Program_of z) := fun _ _ _ _ _ _ hq _ ⟨v0, v1, e, o0, q⟩ => ⟨v0, v1, e, o0, hq _ _ q⟩
theorem len_Program_body (z : Ad) : ∀ ds h Q X, S_Program_body z ds h Q X → ds.length = 1 := fun _ _ _ _ ⟨_, _, e, _⟩ => by rw [e]; rfl
theorem mo_Program_body (z : Ad) : MoF (S_Program_body z) := fun _ _ _ _ _ _ hq _ ⟨v0, v1, e, q⟩ => ⟨v0, v1, e, hq _ _ q⟩
theorem len_Program_mode (z : Ad) : ∀ ds h Q X, S_Program_mode z ds h Q X → ds.length = 1 := fun _ _ _ _ ⟨_, _, e, _⟩ => by rw [e]; rfl
theorem mo_Program_mode (z : Ad) : MoF (S_Program_mode z) := fun _ _ _ _ _ _ hq _ ⟨v0, v1, e, q⟩ => ⟨v0, v1, e, hq _ _ q⟩
theorem len_Program_size (z : Ad) : ∀ ds h Q X, S_Program_size z ds h Q X → ds.length = 1 := fun _ _ _ _ ⟨_, _, e, _⟩ => by rw [e]; rfl
theorem mo_Program_size (z : Ad) : MoF (S_Program_size z) := fun _ _ _ _ _ _ hq _ ⟨v0, v1, e, o0, o1, q⟩ => ⟨v0, v1, e, o0, o1, hq _ _ q⟩
theorem len_Program_reach (z : Ad) : ∀ ds h Q X, S_Program_reach z ds h Q X → ds.length = 1 := fun _ _ _ _ ⟨_, _, e, _⟩ => by rw [e]; rfl
theorem mo_Program_reach (z : Ad) : MoF (S_Program_reach z) := fun _ _ _ _ _ _ hq _ ⟨v0, v1, e, o0, o1, q⟩ => ⟨v0, v1, e, o0, o1, hq _ _ q⟩
theorem len_Program_unrolled (z : Ad) : ∀ ds h Q X, S_Program_unrolled z ds h Q X → ds.length = 1 := fun _ _ _ _ ⟨_, _, e, _⟩ => by rw [e]; rfl
theorem mo_Program_unrolled (z : Ad) : MoF (S_Program_unrolled z) := fun _ _ _ _ _ _ hq _ ⟨v0, v1, e, o0, q⟩ => ⟨v0, v1, e, o0, hq _ _ q⟩
theorem len_Program_words (z : Ad) : ∀ ds h Q X, S_Program_words z ds h Q X → ds.length = 1 := fun _ _ _ _ ⟨_, _, e, _⟩ => by rw [e]; rfl
theorem mo_Program_words (z : Ad) : MoF (S_Program_words z) := fun _ _ _ _ _ _ hq _ ⟨v0, v1, e, o0, q⟩ => ⟨v0, v1, e, o0, hq _ _ q⟩
theorem len_program_in (z : Ad) : ∀ ds h Q X, S_program_in z ds h Q X → ds.length = 2 := fun _ _ _ _ ⟨_, _, e, _⟩ => by rw [e]; rfl
theorem mo_program_in (z : Ad) : MoF (S_program_in z) := fun _ _ _ _ _ _ hq _ ⟨v0, v1, e, o0, q⟩ => ⟨v0, v1, e, o0, hq _ _ q⟩
theorem len_Walk_follow (z : Ad) (n : Nat) : ∀ ds h Q X, S_Walk_follow z n ds h Q X → ds.length = 3 := fun _ _ _ _ ⟨_, _, _, _, _, _, _, _, _, _, e, _⟩ => by rw [e]; rfl
theorem mo_Walk_follow (z : Ad) (n : Nat) : MoF (S_Walk_follow z n) := fun _ _ _ _ _ _ hq _ ⟨v0, v1, v2, v3, v4, v5, v6, v7, v8, v9, e, o0, o1, o2, o3, o4, o5, o6, q⟩ => ⟨v0, v1, v2, v3, v4, v5, v6, v7, v8, v9, e, o0, o1, o2, o3, o4, o5, o6, hq _ _ q⟩
theorem len_Walk_passed (z : Ad) (n : Nat) : ∀ ds h Q X, S_Walk_passed z n ds h Q X → ds.length = 3 := fun _ _ _ _ ⟨_, _, _, _, _, _, _, _, _, _, e, _⟩ => by rw [e]; rfl
theorem mo_Walk_passed (z : Ad) (n : Nat) : MoF (S_Walk_passed z n) := fun _ _ _ _ _ _ hq _ ⟨v0, v1, v2, v3, v4, v5, v6, v7, v8, v9, e, o0, o1, o2, o3, o4, o5, o6, q⟩ => ⟨v0, v1, v2, v3, v4, v5, v6, v7, v8, v9, e, o0, o1, o2, o3, o4, o5, o6, hq _ _ q⟩
theorem len_Walk_left (z : Ad) : ∀ ds h Q X, S_Walk_left z ds h Q X → ds.length = 3 := fun _ _ _ _ ⟨_, _, _, _, _, _, _, _, _, _, e, _⟩ => by rw [e]; rfl
theorem mo_Walk_left (z : Ad) : MoF (S_Walk_left z) := fun _ _ _ _ _ _ hq _ ⟨v0, v1, v2, v3, v4, v5, v6, v7, v8, v9, e, o0, o1, o2, q⟩ => ⟨v0, v1, v2, v3, v4, v5, v6, v7, v8, v9, e, o0, o1, o2, hq _ _ q⟩
theorem len_Walk_note (z : Ad) : ∀ ds h Q X, S_Walk_note z ds h Q X → ds.length = 4 := fun _ _ _ _ ⟨_, _, _, _, _, _, _, _, _, _, _, e, _⟩ => by rw [e]; rfl
theorem mo_Walk_note (z : Ad) : MoF (S_Walk_note z) := fun _ _ _ _ _ _ hq _ ⟨v0, v1, v2, v3, v4, v5, v6, v7, v8, v9, v10, e, o0, o1, o2, q⟩ => ⟨v0, v1, v2, v3, v4, v5, v6, v7, v8, v9, v10, e, o0, o1, o2, hq _ _ q⟩
theorem len_visits (z : Ad) : ∀ ds h Q X, S_visits z ds h Q X → ds.length = 1 := fun _ _ _ _ ⟨_, _, e, _⟩ => by rw [e]; rfl
theorem mo_visits (z : Ad) : MoF (S_visits z) := fun _ _ _ _ _ _ hq _ ⟨v0, v1, e, o0, q⟩ => ⟨v0, v1, e, o0, hq _ _ q⟩
theorem len_written (z : Ad) : ∀ ds h Q X, S_written z ds h Q X → ds.length = 1 := fun _ _ _ _ ⟨_, _, e, _⟩ => by rw [e]; rfl
theorem mo_written (z : Ad) : MoF (S_written z) := fun _ _ _ _ _ _ hq _ ⟨v0, v1, e, o0, q⟩ => ⟨v0, v1, e, o0, hq _ _ q⟩
theorem len_copies (z : Ad) : ∀ ds h Q X, S_copies z ds h Q X → ds.length = 1 := fun _ _ _ _ ⟨_, _, e, _⟩ => by rw [e]; rfl
theorem mo_copies (z : Ad) : MoF (S_copies z) := fun _ _ _ _ _ _ hq _ ⟨v0, v1, e, o0, q⟩ => ⟨v0, v1, e, o0, hq _ _ q⟩
theorem len_end_of (z : Ad) : ∀ ds h Q X, S_end_of z ds h Q X → ds.length = 1 := fun _ _ _ _ ⟨_, _, e, _⟩ => by rw [e]; rfl
theorem mo_end_of (z : Ad) : MoF (S_end_of z) := fun _ _ _ _ _ _ hq _ ⟨v0, v1, e, o0, q⟩ => ⟨v0, v1, e, o0, hq _ _ q⟩
theorem len_events (z : Ad) : ∀ ds h Q X, S_events z ds h Q X → ds.length = 1 := fun _ _ _ _ ⟨_, _, e, _⟩ => by rw [e]; rfl
theorem mo_events (z : Ad) : MoF (S_events z) := fun _ _ _ _ _ _ hq _ ⟨v0, v1, e, o0, q⟩ => ⟨v0, v1, e, o0, hq _ _ q⟩
theorem len_early_events (z : Ad) : ∀ ds h Q X, S_early_events z ds h Q X → ds.length = 1 := fun _ _ _ _ ⟨_, _, e, _⟩ => by rw [e]; rfl
theorem mo_early_events (z : Ad) : MoF (S_early_events z) := fun _ _ _ _ _ _ hq _ ⟨v0, v1, e, o0, q⟩ => ⟨v0, v1, e, o0, hq _ _ q⟩
theorem len_late_events (z : Ad) : ∀ ds h Q X, S_late_events z ds h Q X → ds.length = 1 := fun _ _ _ _ ⟨_, _, e, _⟩ => by rw [e]; rfl
theorem mo_late_events (z : Ad) : MoF (S_late_events z) := fun _ _ _ _ _ _ hq _ ⟨v0, v1, e, o0, q⟩ => ⟨v0, v1, e, o0, hq _ _ q⟩
theorem len_losses (z : Ad) : ∀ ds h Q X, S_losses z ds h Q X → ds.length = 1 := fun _ _ _ _ ⟨_, _, e, _⟩ => by rw [e]; rfl
theorem mo_losses (z : Ad) : MoF (S_losses z) := fun _ _ _ _ _ _ hq _ ⟨a, b, e, o, q⟩ => ⟨a, b, e, o, fun p hp => hq _ _ (q p hp)⟩
theorem len_processes (z : Ad) : ∀ ds h Q X, S_processes z ds h Q X → ds.length = 1 := fun _ _ _ _ ⟨_, _, e, _⟩ => by rw [e]; rfl
theorem mo_processes (z : Ad) : MoF (S_processes z) := fun _ _ _ _ _ _ hq _ ⟨v0, v1, e, o0, q⟩ => ⟨v0, v1, e, o0, hq _ _ q⟩
theorem len_end_of_walk (z : Ad) : ∀ ds h Q X, S_end_of_walk z ds h Q X → ds.length = 1 := fun _ _ _ _ ⟨_, _, e, _⟩ => by rw [e]; rfl
theorem mo_end_of_walk (z : Ad) : MoF (S_end_of_walk z) := fun _ _ _ _ _ _ hq _ ⟨v0, v1, e, o0, q⟩ => ⟨v0, v1, e, o0, hq _ _ q⟩
theorem no_walked (z : Ad) : ∀ ds h Q X, ¬ S_walked z 0 ds h Q X := fun _ _ _ _ ⟨_, _, _, _, l, _⟩ => by omega
theorem no_wrong_in (z : Ad) : ∀ ds h Q X, ¬ S_wrong_in z 0 ds h Q X := fun _ _ _ _ ⟨_, _, _, _, _, l, _⟩ => by omega
theorem no_size_in (z : Ad) : ∀ ds h Q X, ¬ S_size_in z 0 ds h Q X := fun _ _ _ _ ⟨_, _, _, l, _⟩ => by omega
theorem no_bytes_in (z : Ad) : ∀ ds h Q X, ¬ S_bytes_in z 0 ds h Q X := fun _ _ _ _ ⟨_, _, _, l, _⟩ => by omega
theorem no_reach_in (z : Ad) : ∀ ds h Q X, ¬ S_reach_in z 0 ds h Q X := fun _ _ _ _ ⟨_, _, _, l, _⟩ => by omega
theorem no_unrolled_in (z : Ad) : ∀ ds h Q X, ¬ S_unrolled_in z 0 ds h Q X := fun _ _ _ _ ⟨_, _, _, l, _⟩ => by omega
theorem no_Walk_follow (z : Ad) : ∀ ds h Q X, ¬ S_Walk_follow z 0 ds h Q X := fun _ _ _ _ ⟨_, _, _, _, _, _, _, _, _, _, _, _, _, _, _, l, _⟩ => by omega
theorem dptA_pos {a : Ac} : 1 ≤ dptA a := by cases a <;> rw [dptA] <;> omega
theorem no_Walk_passed (z : Ad) : ∀ ds h Q X, ¬ S_Walk_passed z 0 ds h Q X := fun _ _ _ _ ⟨_, _, _, _, _, _, _, _, c, _, _, _, _, _, _, l, _⟩ => by have := dptA_pos (a := c); omega
theorem len_Walk___init__ (z : Ad) : ∀ ds h Q X, S_Walk___init__ z ds h Q X → ds.length = 2 := fun _ _ _ _ ⟨_, _, _, e, _⟩ => by rw [e]; rfl
theorem mo_Walk___init__ (z : Ad) : MoF (S_Walk___init__ z) := fun _ _ _ _ _ _ hq _ ⟨a, b, c, e, o1, o2, q⟩ => ⟨a, b, c, e, o1, o2, fun p r h1 h2 h3 => hq _ _ (q p r h1 h2 h3)⟩

theorem big_mul {n : Nat} (h : n ≤ 300) {j : Int} : MulOk (n : Int) j := .inl ⟨by omega, by omega⟩
theorem wlkA_eq {p : List Nat} {a : Ac} : wlkA p a = (p, a) :: wlkB p 0 (inn a) := by
  cases a with
  | bare w => rw [wlkA, inn, wlkB]
  | write n => rw [wlkA, inn, wlkB]
  | fork b => rw [wlkA, inn]
  | rep n b => rw [wlkA, inn]
mutual
theorem wlkA_len : ∀ {a : Ac} {p : List Nat}, (wlkA p a).length = cntA a
  | .bare w, p => by rw [wlkA, cntA]; rfl
  | .write n, p => by rw [wlkA, cntA]; rfl
  | .fork b, p => by rw [wlkA, cntA, List.length_cons, wlkB_len]
  | .rep n b, p => by rw [wlkA, cntA, List.length_cons, wlkB_len]
theorem wlkB_len : ∀ {b : List Ac} {p : List Nat} {i : Nat}, (wlkB p i b).length = cntB b
  | [], p, i => by rw [wlkB, cntB]; rfl
  | a :: r, p, i => by rw [wlkB, cntB, List.length_append, wlkA_len, wlkB_len]
end
theorem plc_add {p : List Nat} {i : Nat} : D.tup (p.map natD ++ [.int i]) = plcD (p ++ [i]) := by
  rw [plcD, List.map_append]; rfl
theorem numF_cons {x : D} {l : List D} {i : Nat} {b : List Ac} (h : x :: l = numF i (encs b)) : ∃ a r, b = a :: r ∧ x = .tup [.int i, enc a] ∧ l = numF (i + 1) (encs r) := by
  cases b with
  | nil => rw [encs, numF] at h; cases h
  | cons a r => rw [encs, numF] at h; cases h; exact ⟨a, r, rfl, rfl, rfl⟩
theorem numF_nil {i : Nat} {b : List Ac} (h : [] = numF i (encs b)) : b = [] := by
  cases b with
  | nil => rfl
  | cons a r => rw [encs, numF] at h; cases h
theorem go_t2 {x y : D} {i j : Nat} {ρ : EnvD} {h : AH} {Q : EnvD → AH → Prop} {X : KX} (q : Q ((ρ.set i (some x)).set j (some y)) h) : gT 2 (gsCons (gN i) (gsCons (gN j) gsNil)) (.tup [x, y]) ρ h Q X :=
  ⟨_, rfl, rfl, _, _, rfl, _, _, rfl, rfl, q⟩
theorem go_t3 {x y u : D} {i j k : Nat} {ρ : EnvD} {h : AH} {Q : EnvD → AH → Prop} {X : KX} (q : Q (((ρ.set i (some x)).set j (some y)).set k (some u)) h) : gT 3 (gsCons (gN i) (gsCons (gN j) (gsCons (gN k) gsNil))) (.tup [x, y, u]) ρ h Q X :=
  ⟨_, rfl, rfl, _, _, rfl, _, _, rfl, _, _, rfl, rfl, q⟩
theorem sz_le {n : Nat} (h : n ≤ 100000) : n ≤ sizeLine := Nat.le_trans h big_size
theorem p_walked (z : Ad) (n : Nat) : ∀ ds h Q X, S_walked z (n + 1) ds h Q X → w_walked z n (endsD Q X) (startD 7 ds) h := by
  rintro ds h Q X ⟨b, p, rfl, ok, dp, sz, q⟩
  show w_walked z n (endsD Q X) [some (.tup (encs b)), some (plcD p), none, none, none, none, none] h
  unfold w_walked
  ((try dsimp only); rw [u_seq]; (try simp only [u_asg, u_gN, u_ret, u_retN, u_skip, u_expr, u_ifs, u_c, u_op, u_neg, u_test, u_and, u_or, u_not, u_if, u_nil, u_cons, u_tup, u_lst, u_callP, u_call, u_b, u_chain, u_andV, u_addI, u_subI, u_mulI, u_divI, u_modI, u_powI, u_cmpI, u_eqI, u_eqS, u_eqB, u_abs, u_intI, u_intB, u_newT, u_newF, u_isN, u_notN, wVar, List.set_cons_zero, List.set_cons_succ, List.getElem?_cons_zero, List.getElem?_cons_succ, List.length_cons, List.length_nil, u_lc, u_for, u_r1, u_r2, u_r3, u_num, u_notV, u_yes, u_w0, u_w1, u_dput, u_get2, u_dget, u_prop, u_fld, u_setF, u_make, u_makeS, u_met, u_calO, u_orT, u_tupIt, u_dc, u_maxDd, u_dnew, u_tupi, ix_p0, ix_p1, wSl, woNone, woSome]))
  refine ⟨Nat.zero_le _, ?_⟩
  ((try dsimp only); rw [u_seq]; (try simp only [u_asg, u_gN, u_ret, u_retN, u_skip, u_expr, u_ifs, u_c, u_op, u_neg, u_test, u_and, u_or, u_not, u_if, u_nil, u_cons, u_tup, u_lst, u_callP, u_call, u_b, u_chain, u_andV, u_addI, u_subI, u_mulI, u_divI, u_modI, u_powI, u_cmpI, u_eqI, u_eqS, u_eqB, u_abs, u_intI, u_intB, u_newT, u_newF, u_isN, u_notN, wVar, List.set_cons_zero, List.set_cons_succ, List.getElem?_cons_zero, List.getElem?_cons_succ, List.length_cons, List.length_nil, u_lc, u_for, u_r1, u_r2, u_r3, u_num, u_notV, u_yes, u_w0, u_w1, u_dput, u_get2, u_dget, u_prop, u_fld, u_setF, u_make, u_makeS, u_met, u_calO, u_orT, u_tupIt, u_dc, u_maxDd, u_dnew, u_tupi, ix_p0, ix_p1, wSl, woNone, woSome]))
  rw [numD_F]
  refine loop_rest (fun l ρ h' => ∃ i b2 fs a3 a4 a5 a6, l = numF i (encs b2) ∧ ρ = [some (.tup (encs b)), some (plcD p), some (.lst fs), a3, a4, a5, a6] ∧ h = h' ∧ okB b2 = true ∧ dptB b2 ≤ dptB b ∧ fs.length + cntB b2 = cntB b ∧ fs ++ (wlkB p i b2).map rowD = (wlkB p 0 b).map rowD) (fun _ _ _ _ => trivial) ?_ ?_ _ _ _
    ⟨0, b, [], _, _, _, _, rfl, rfl, rfl, ok, Nat.le_refl _, by simp, by simp⟩
  · rintro x l _ _ K ⟨i, b2, fs, a3, a4, a5, a6, hl, rfl, rfl, ok2, dp2, ln, hf⟩ k
    obtain ⟨a, r, rfl, rfl, rfl⟩ := numF_cons hl
    obtain ⟨oa, or_⟩ := okB_cons ok2
    rw [dptB] at dp2
    rw [cntB] at ln
    have ci := cnt_inn (a := a)
    have di := dpt_inn (a := a)
    refine go_t2 ?_
    dsimp only [List.set_cons_zero, List.set_cons_succ]
    ((try dsimp only); rw [u_seq]; (try simp only [u_asg, u_gN, u_ret, u_retN, u_skip, u_expr, u_ifs, u_c, u_op, u_neg, u_test, u_and, u_or, u_not, u_if, u_nil, u_cons, u_tup, u_lst, u_callP, u_call, u_b, u_chain, u_andV, u_addI, u_subI, u_mulI, u_divI, u_modI, u_powI, u_cmpI, u_eqI, u_eqS, u_eqB, u_abs, u_intI, u_intB, u_newT, u_newF, u_isN, u_notN, wVar, List.set_cons_zero, List.set_cons_succ, List.getElem?_cons_zero, List.getElem?_cons_succ, List.length_cons, List.length_nil, u_lc, u_for, u_r1, u_r2, u_r3, u_num, u_notV, u_yes, u_w0, u_w1, u_dput, u_get2, u_dget, u_prop, u_fld, u_setF, u_make, u_makeS, u_met, u_calO, u_orT, u_tupIt, u_dc, u_maxDd, u_dnew, u_tupi, ix_p0, ix_p1, wSl, woNone, woSome]))
    simp only [u_star, u_asg, u_gN, u_ret, u_retN, u_skip, u_expr, u_ifs, u_c, u_op, u_neg, u_test, u_and, u_or, u_not, u_if, u_nil, u_cons, u_tup, u_lst, u_callP, u_call, u_b, u_chain, u_andV, u_addI, u_subI, u_mulI, u_divI, u_modI, u_powI, u_cmpI, u_eqI, u_eqS, u_eqB, u_abs, u_intI, u_intB, u_newT, u_newF, u_isN, u_notN, wVar, List.set_cons_zero, List.set_cons_succ, List.getElem?_cons_zero, List.getElem?_cons_succ, List.length_cons, List.length_nil, u_lc, u_for, u_r1, u_r2, u_r3, u_num, u_notV, u_yes, u_w0, u_w1, u_dput, u_get2, u_dget, u_prop, u_fld, u_setF, u_make, u_makeS, u_met, u_calO, u_orT, u_tupIt, u_dc, u_maxDd, u_dnew, u_tupi, ix_p0, ix_p1, wSl, woNone, woSome]
    refine ⟨_, rfl, sz_le (by simp; omega), ?_⟩
    rw [plc_add]
    ((try dsimp only); rw [u_seq]; (try simp only [u_asg, u_gN, u_ret, u_retN, u_skip, u_expr, u_ifs, u_c, u_op, u_neg, u_test, u_and, u_or, u_not, u_if, u_nil, u_cons, u_tup, u_lst, u_callP, u_call, u_b, u_chain, u_andV, u_addI, u_subI, u_mulI, u_divI, u_modI, u_powI, u_cmpI, u_eqI, u_eqS, u_eqB, u_abs, u_intI, u_intB, u_newT, u_newF, u_isN, u_notN, wVar, List.set_cons_zero, List.set_cons_succ, List.getElem?_cons_zero, List.getElem?_cons_succ, List.length_cons, List.length_nil, u_lc, u_for, u_r1, u_r2, u_r3, u_num, u_notV, u_yes, u_w0, u_w1, u_dput, u_get2, u_dget, u_prop, u_fld, u_setF, u_make, u_makeS, u_met, u_calO, u_orT, u_tupIt, u_dc, u_maxDd, u_dnew, u_tupi, ix_p0, ix_p1, wSl, woNone, woSome]))
    refine ⟨trivial, go_inn oa ⟨trivial, inn a, p ++ [i], rfl, okA_inn oa, by omega, ?_, ?_⟩⟩
    · simp only [List.length_append, List.length_cons, List.length_nil]
      omega
    try simp only [u_asg, u_gN, u_ret, u_retN, u_skip, u_expr, u_ifs, u_c, u_op, u_neg, u_test, u_and, u_or, u_not, u_if, u_nil, u_cons, u_tup, u_lst, u_callP, u_call, u_b, u_chain, u_andV, u_addI, u_subI, u_mulI, u_divI, u_modI, u_powI, u_cmpI, u_eqI, u_eqS, u_eqB, u_abs, u_intI, u_intB, u_newT, u_newF, u_isN, u_notN, wVar, List.set_cons_zero, List.set_cons_succ, List.getElem?_cons_zero, List.getElem?_cons_succ, List.length_cons, List.length_nil, u_lc, u_for, u_r1, u_r2, u_r3, u_num, u_notV, u_yes, u_w0, u_w1, u_dput, u_get2, u_dget, u_prop, u_fld, u_setF, u_make, u_makeS, u_met, u_calO, u_orT, u_tupIt, u_dc, u_maxDd, u_dnew, u_tupi, ix_p0, ix_p1, wSl, woNone, woSome]
    simp only [u_star, u_asg, u_gN, u_ret, u_retN, u_skip, u_expr, u_ifs, u_c, u_op, u_neg, u_test, u_and, u_or, u_not, u_if, u_nil, u_cons, u_tup, u_lst, u_callP, u_call, u_b, u_chain, u_andV, u_addI, u_subI, u_mulI, u_divI, u_modI, u_powI, u_cmpI, u_eqI, u_eqS, u_eqB, u_abs, u_intI, u_intB, u_newT, u_newF, u_isN, u_notN, wVar, List.set_cons_zero, List.set_cons_succ, List.getElem?_cons_zero, List.getElem?_cons_succ, List.length_cons, List.length_nil, u_lc, u_for, u_r1, u_r2, u_r3, u_num, u_notV, u_yes, u_w0, u_w1, u_dput, u_get2, u_dget, u_prop, u_fld, u_setF, u_make, u_makeS, u_met, u_calO, u_orT, u_tupIt, u_dc, u_maxDd, u_dnew, u_tupi, ix_p0, ix_p1, wSl, woNone, woSome]
    refine ⟨_, rfl, by decide, _, rfl, ?_, ?_⟩
    · refine sz_le ?_
      simp only [List.length_append, List.length_cons, List.length_nil, List.length_map, wlkB_len]
      omega
    refine k _ _ ⟨i + 1, r, _, _, _, _, _, rfl, rfl, rfl, or_, by omega, ?_, ?_⟩
    · simp only [List.length_append, List.length_cons, List.length_nil, List.length_map, wlkB_len]
      omega
    · rw [← hf, wlkB, List.map_append, wlkA_eq, List.map_cons]
      simp [rowD]
  · rintro _ _ ⟨i, b2, fs, a3, a4, a5, a6, hl, rfl, rfl, ok2, dp2, ln, hf⟩
    obtain rfl := numF_nil hl
    try simp only [u_asg, u_gN, u_ret, u_retN, u_skip, u_expr, u_ifs, u_c, u_op, u_neg, u_test, u_and, u_or, u_not, u_if, u_nil, u_cons, u_tup, u_lst, u_callP, u_call, u_b, u_chain, u_andV, u_addI, u_subI, u_mulI, u_divI, u_modI, u_powI, u_cmpI, u_eqI, u_eqS, u_eqB, u_abs, u_intI, u_intB, u_newT, u_newF, u_isN, u_notN, wVar, List.set_cons_zero, List.set_cons_succ, List.getElem?_cons_zero, List.getElem?_cons_succ, List.length_cons, List.length_nil, u_lc, u_for, u_r1, u_r2, u_r3, u_num, u_notV, u_yes, u_w0, u_w1, u_dput, u_get2, u_dget, u_prop, u_fld, u_setF, u_make, u_makeS, u_met, u_calO, u_orT, u_tupIt, u_dc, u_maxDd, u_dnew, u_tupi, ix_p0, ix_p1, wSl, woNone, woSome]
    rw [wlkB, List.map_nil, List.append_nil] at hf
    rw [hf]
    exact fin_of q
end PK
namespace PK
open PySem PySem.Spec L2 C8 DL

theorem p_wrong_in (z : Ad) (n : Nat) : ∀ ds h Q X, S_wrong_in z (n + 1) ds h Q X → w_wrong_in z n (endsD Q X) (startD 7 ds) h := by
  rintro ds h Q X ⟨b, p, c, rfl, ok, dp, lp, lc, q⟩
  show w_wrong_in z n (endsD Q X) [some (.tup (encs b)), some (plcD p), some (.int (c : Nat)), none, none, none, none] h
  unfold w_wrong_in
  ((try dsimp only); rw [u_seq]; (try simp only [u_asg, u_gN, u_ret, u_retN, u_skip, u_expr, u_ifs, u_c, u_op, u_neg, u_test, u_and, u_or, u_not, u_if, u_nil, u_cons, u_tup, u_lst, u_callP, u_call, u_b, u_chain, u_andV, u_addI, u_subI, u_mulI, u_divI, u_modI, u_powI, u_cmpI, u_eqI, u_eqS, u_eqB, u_abs, u_intI, u_intB, u_newT, u_newF, u_isN, u_notN, wVar, List.set_cons_zero, List.set_cons_succ, List.getElem?_cons_zero, List.getElem?_cons_succ, List.length_cons, List.length_nil, u_lc, u_for, u_r1, u_r2, u_r3, u_num, u_notV, u_yes, u_w0, u_w1, u_dput, u_get2, u_dget, u_prop, u_fld, u_setF, u_make, u_makeS, u_met, u_calO, u_orT, u_tupIt, u_dc, u_maxDd, u_dnew, u_tupi, ix_p0, ix_p1, wSl, woNone, woSome]))
  rw [numD_F]
  refine loop_rest (fun l ρ h' => ∃ i b2 c2 a3 a4 a5 a6, l = numF i (encs b2) ∧ ρ = [some (.tup (encs b)), some (plcD p), some (.int ((c2 : Nat) : Int)), a3, a4, a5, a6] ∧ h = h' ∧ okB b2 = true ∧ dptB b2 ≤ dptB b ∧ c2 + cntB b2 = c + cntB b) (fun _ _ _ _ => trivial) ?_ ?_ _ _ _
    ⟨0, b, c, _, _, _, _, rfl, rfl, rfl, ok, Nat.le_refl _, rfl⟩
  · rintro x l _ _ K ⟨i, b2, c2, a3, a4, a5, a6, hl, rfl, rfl, ok2, dp2, ln⟩ k
    obtain ⟨a, r, rfl, rfl, rfl⟩ := numF_cons hl
    obtain ⟨oa, or_⟩ := okB_cons ok2
    rw [dptB] at dp2
    rw [cntB] at ln
    have ci := cnt_inn (a := a)
    have di := dpt_inn (a := a)
    refine go_t2 ?_
    dsimp only [List.set_cons_zero, List.set_cons_succ]
    ((try dsimp only); rw [u_seq]; (try simp only [u_asg, u_gN, u_ret, u_retN, u_skip, u_expr, u_ifs, u_c, u_op, u_neg, u_test, u_and, u_or, u_not, u_if, u_nil, u_cons, u_tup, u_lst, u_callP, u_call, u_b, u_chain, u_andV, u_addI, u_subI, u_mulI, u_divI, u_modI, u_powI, u_cmpI, u_eqI, u_eqS, u_eqB, u_abs, u_intI, u_intB, u_newT, u_newF, u_isN, u_notN, wVar, List.set_cons_zero, List.set_cons_succ, List.getElem?_cons_zero, List.getElem?_cons_succ, List.length_cons, List.length_nil, u_lc, u_for, u_r1, u_r2, u_r3, u_num, u_notV, u_yes, u_w0, u_w1, u_dput, u_get2, u_dget, u_prop, u_fld, u_setF, u_make, u_makeS, u_met, u_calO, u_orT, u_tupIt, u_dc, u_maxDd, u_dnew, u_tupi, ix_p0, ix_p1, wSl, woNone, woSome]))
    simp only [u_star, u_asg, u_gN, u_ret, u_retN, u_skip, u_expr, u_ifs, u_c, u_op, u_neg, u_test, u_and, u_or, u_not, u_if, u_nil, u_cons, u_tup, u_lst, u_callP, u_call, u_b, u_chain, u_andV, u_addI, u_subI, u_mulI, u_divI, u_modI, u_powI, u_cmpI, u_eqI, u_eqS, u_eqB, u_abs, u_intI, u_intB, u_newT, u_newF, u_isN, u_notN, wVar, List.set_cons_zero, List.set_cons_succ, List.getElem?_cons_zero, List.getElem?_cons_succ, List.length_cons, List.length_nil, u_lc, u_for, u_r1, u_r2, u_r3, u_num, u_notV, u_yes, u_w0, u_w1, u_dput, u_get2, u_dget, u_prop, u_fld, u_setF, u_make, u_makeS, u_met, u_calO, u_orT, u_tupIt, u_dc, u_maxDd, u_dnew, u_tupi, ix_p0, ix_p1, wSl, woNone, woSome]
    refine ⟨_, rfl, sz_le (by simp; omega), ?_⟩
    rw [plc_add]
    ((try dsimp only); rw [u_seq]; (try simp only [u_asg, u_gN, u_ret, u_retN, u_skip, u_expr, u_ifs, u_c, u_op, u_neg, u_test, u_and, u_or, u_not, u_if, u_nil, u_cons, u_tup, u_lst, u_callP, u_call, u_b, u_chain, u_andV, u_addI, u_subI, u_mulI, u_divI, u_modI, u_powI, u_cmpI, u_eqI, u_eqS, u_eqB, u_abs, u_intI, u_intB, u_newT, u_newF, u_isN, u_notN, wVar, List.set_cons_zero, List.set_cons_succ, List.getElem?_cons_zero, List.getElem?_cons_succ, List.length_cons, List.length_nil, u_lc, u_for, u_r1, u_r2, u_r3, u_num, u_notV, u_yes, u_w0, u_w1, u_dput, u_get2, u_dget, u_prop, u_fld, u_setF, u_make, u_makeS, u_met, u_calO, u_orT, u_tupIt, u_dc, u_maxDd, u_dnew, u_tupi, ix_p0, ix_p1, wSl, woNone, woSome]))
    ((try dsimp only); rw [u_seq]; (try simp only [u_asg, u_gN, u_ret, u_retN, u_skip, u_expr, u_ifs, u_c, u_op, u_neg, u_test, u_and, u_or, u_not, u_if, u_nil, u_cons, u_tup, u_lst, u_callP, u_call, u_b, u_chain, u_andV, u_addI, u_subI, u_mulI, u_divI, u_modI, u_powI, u_cmpI, u_eqI, u_eqS, u_eqB, u_abs, u_intI, u_intB, u_newT, u_newF, u_isN, u_notN, wVar, List.set_cons_zero, List.set_cons_succ, List.getElem?_cons_zero, List.getElem?_cons_succ, List.length_cons, List.length_nil, u_lc, u_for, u_r1, u_r2, u_r3, u_num, u_notV, u_yes, u_w0, u_w1, u_dput, u_get2, u_dget, u_prop, u_fld, u_setF, u_make, u_makeS, u_met, u_calO, u_orT, u_tupIt, u_dc, u_maxDd, u_dnew, u_tupi, ix_p0, ix_p1, wSl, woNone, woSome]))
    refine ⟨trivial, _, rfl, thA_ok oa (by omega), ?_⟩
    rw [headD_ok oa]
    simp only [Bool.not_true, Bool.false_eq_true, if_false]
    rw [plcD, u_lenT]
    simp only [u_asg, u_gN, u_ret, u_retN, u_skip, u_expr, u_ifs, u_c, u_op, u_neg, u_test, u_and, u_or, u_not, u_if, u_nil, u_cons, u_tup, u_lst, u_callP, u_call, u_b, u_chain, u_andV, u_addI, u_subI, u_mulI, u_divI, u_modI, u_powI, u_cmpI, u_eqI, u_eqS, u_eqB, u_abs, u_intI, u_intB, u_newT, u_newF, u_isN, u_notN, wVar, List.set_cons_zero, List.set_cons_succ, List.getElem?_cons_zero, List.getElem?_cons_succ, List.length_cons, List.length_nil, u_lc, u_for, u_r1, u_r2, u_r3, u_num, u_notV, u_yes, u_w0, u_w1, u_dput, u_get2, u_dget, u_prop, u_fld, u_setF, u_make, u_makeS, u_met, u_calO, u_orT, u_tupIt, u_dc, u_maxDd, u_dnew, u_tupi, ix_p0, ix_p1, wSl, woNone, woSome]
    rw [if_neg (by rw [decide_eq_false (by simp; omega)]; decide), if_neg (by rw [decide_eq_false (by omega)]; decide)]
    rw [← plcD]
    ((try dsimp only); rw [u_seq]; (try simp only [u_asg, u_gN, u_ret, u_retN, u_skip, u_expr, u_ifs, u_c, u_op, u_neg, u_test, u_and, u_or, u_not, u_if, u_nil, u_cons, u_tup, u_lst, u_callP, u_call, u_b, u_chain, u_andV, u_addI, u_subI, u_mulI, u_divI, u_modI, u_powI, u_cmpI, u_eqI, u_eqS, u_eqB, u_abs, u_intI, u_intB, u_newT, u_newF, u_isN, u_notN, wVar, List.set_cons_zero, List.set_cons_succ, List.getElem?_cons_zero, List.getElem?_cons_succ, List.length_cons, List.length_nil, u_lc, u_for, u_r1, u_r2, u_r3, u_num, u_notV, u_yes, u_w0, u_w1, u_dput, u_get2, u_dget, u_prop, u_fld, u_setF, u_make, u_makeS, u_met, u_calO, u_orT, u_tupIt, u_dc, u_maxDd, u_dnew, u_tupi, ix_p0, ix_p1, wSl, woNone, woSome]))
    refine ⟨trivial, go_inn oa ⟨trivial, inn a, p ++ [i], c2 + 1, ?_, okA_inn oa, by omega, by simp; omega, by omega, ?_⟩⟩
    · rw [show ((c2 + 1 : Nat) : Int) = (c2 : Int) + 1 by omega]
    refine go_t2 ?_
    try simp only [u_asg, u_gN, u_ret, u_retN, u_skip, u_expr, u_ifs, u_c, u_op, u_neg, u_test, u_and, u_or, u_not, u_if, u_nil, u_cons, u_tup, u_lst, u_callP, u_call, u_b, u_chain, u_andV, u_addI, u_subI, u_mulI, u_divI, u_modI, u_powI, u_cmpI, u_eqI, u_eqS, u_eqB, u_abs, u_intI, u_intB, u_newT, u_newF, u_isN, u_notN, wVar, List.set_cons_zero, List.set_cons_succ, List.getElem?_cons_zero, List.getElem?_cons_succ, List.length_cons, List.length_nil, u_lc, u_for, u_r1, u_r2, u_r3, u_num, u_notV, u_yes, u_w0, u_w1, u_dput, u_get2, u_dget, u_prop, u_fld, u_setF, u_make, u_makeS, u_met, u_calO, u_orT, u_tupIt, u_dc, u_maxDd, u_dnew, u_tupi, ix_p0, ix_p1, wSl, woNone, woSome]
    try simp only [dIsN, Bool.not_true, Bool.false_eq_true, if_false]
    exact k _ _ ⟨i + 1, r, c2 + 1 + cntB (inn a), _, _, _, _, rfl, rfl, rfl, or_, by omega, by omega⟩
  · rintro _ _ ⟨i, b2, c2, a3, a4, a5, a6, hl, rfl, rfl, ok2, dp2, ln⟩
    obtain rfl := numF_nil hl
    try simp only [u_asg, u_gN, u_ret, u_retN, u_skip, u_expr, u_ifs, u_c, u_op, u_neg, u_test, u_and, u_or, u_not, u_if, u_nil, u_cons, u_tup, u_lst, u_callP, u_call, u_b, u_chain, u_andV, u_addI, u_subI, u_mulI, u_divI, u_modI, u_powI, u_cmpI, u_eqI, u_eqS, u_eqB, u_abs, u_intI, u_intB, u_newT, u_newF, u_isN, u_notN, wVar, List.set_cons_zero, List.set_cons_succ, List.getElem?_cons_zero, List.getElem?_cons_succ, List.length_cons, List.length_nil, u_lc, u_for, u_r1, u_r2, u_r3, u_num, u_notV, u_yes, u_w0, u_w1, u_dput, u_get2, u_dget, u_prop, u_fld, u_setF, u_make, u_makeS, u_met, u_calO, u_orT, u_tupIt, u_dc, u_maxDd, u_dnew, u_tupi, ix_p0, ix_p1, wSl, woNone, woSome]
    rw [cntB, Nat.add_zero] at ln
    rw [ln]
    exact ⟨by decide, fin_of q⟩
theorem p_first_wrong (z : Ad) : ∀ ds h Q X, S_first_wrong z ds h Q X → w_first_wrong z (endsD Q X) (startD 1 ds) h := by
  rintro ds h Q X ⟨b, rfl, f, q⟩
  show w_first_wrong z (endsD Q X) [some (.tup (encs b))] h
  have := f.dpt
  have := f.cnt
  simp only [w_first_wrong, u_asg, u_gN, u_ret, u_retN, u_skip, u_expr, u_ifs, u_c, u_op, u_neg, u_test, u_and, u_or, u_not, u_if, u_nil, u_cons, u_tup, u_lst, u_callP, u_call, u_b, u_chain, u_andV, u_addI, u_subI, u_mulI, u_divI, u_modI, u_powI, u_cmpI, u_eqI, u_eqS, u_eqB, u_abs, u_intI, u_intB, u_newT, u_newF, u_isN, u_notN, wVar, List.set_cons_zero, List.set_cons_succ, List.getElem?_cons_zero, List.getElem?_cons_succ, List.length_cons, List.length_nil, u_lc, u_for, u_r1, u_r2, u_r3, u_num, u_notV, u_yes, u_w0, u_w1, u_dput, u_get2, u_dget, u_prop, u_fld, u_setF, u_make, u_makeS, u_met, u_calO, u_orT, u_tupIt, u_dc, u_maxDd, u_dnew, u_tupi, ix_p0, ix_p1, wSl, woNone, woSome]
  refine ⟨by decide, trivial, b, [], 0, rfl, f.ok, by omega, by simp; omega, by omega, ?_⟩
  dsimp only
  rw [u_ixTd at0]
  exact fin_of q
theorem ix_rep1 {m : Nat} {c : List Ac} {g : AH} {Q : KD} : dIx (enc (.rep m c)) (.int 1) g Q = Q (.int m) g := by rw [enc, u_ixTd at1]
theorem ix_rep2 {m : Nat} {c : List Ac} {g : AH} {Q : KD} : dIx (enc (.rep m c)) (.int 2) g Q = Q (.tup (encs c)) g := by rw [enc, u_ixTd at2]
theorem ix_fork1 {c : List Ac} {g : AH} {Q : KD} : dIx (enc (.fork c)) (.int 1) g Q = Q (.tup (encs c)) g := by rw [enc, u_ixTd at1]
theorem ix_write1 {n : Nat} {g : AH} {Q : KD} : dIx (enc (.write n)) (.int 1) g Q = Q (.int n) g := by rw [enc, u_ixTd at1]
theorem sizA_non {a : Ac} (h : word a ≠ "repeat") : sizA a = 1 + sizB (inn a) := by
  cases a with
  | bare w => rw [sizA, inn, sizB]
  | write m => rw [sizA, inn, sizB]
  | fork c => rw [sizA, inn]
  | rep m c => exact absurd rfl h
theorem bynA_non {a : Ac} (h : word a ≠ "repeat") : bynA a = byt a := by
  cases a with
  | bare w => rw [bynA]
  | write m => rw [bynA, byt]
  | fork c => rw [bynA, byt]
  | rep m c => exact absurd rfl h
theorem p_size_in (z : Ad) (n : Nat) : ∀ ds h Q X, S_size_in z (n + 1) ds h Q X → w_size_in z n (endsD Q X) (startD 4 ds) h := by
  rintro ds h Q X ⟨b, rfl, ok, dp, q⟩
  show w_size_in z n (endsD Q X) [some (.tup (encs b)), none, none, none] h
  unfold w_size_in
  ((try dsimp only); rw [u_seq]; (try simp only [u_asg, u_gN, u_ret, u_retN, u_skip, u_expr, u_ifs, u_c, u_op, u_neg, u_test, u_and, u_or, u_not, u_if, u_nil, u_cons, u_tup, u_lst, u_callP, u_call, u_b, u_chain, u_andV, u_addI, u_subI, u_mulI, u_divI, u_modI, u_powI, u_cmpI, u_eqI, u_eqS, u_eqB, u_abs, u_intI, u_intB, u_newT, u_newF, u_isN, u_notN, wVar, List.set_cons_zero, List.set_cons_succ, List.getElem?_cons_zero, List.getElem?_cons_succ, List.length_cons, List.length_nil, u_lc, u_for, u_r1, u_r2, u_r3, u_num, u_notV, u_yes, u_w0, u_w1, u_dput, u_get2, u_dget, u_prop, u_fld, u_setF, u_make, u_makeS, u_met, u_calO, u_orT, u_tupIt, u_dc, u_maxDd, u_dnew, u_tupi, ix_p0, ix_p1, wSl, woNone, woSome]))
  ((try dsimp only); rw [u_seq]; (try simp only [u_asg, u_gN, u_ret, u_retN, u_skip, u_expr, u_ifs, u_c, u_op, u_neg, u_test, u_and, u_or, u_not, u_if, u_nil, u_cons, u_tup, u_lst, u_callP, u_call, u_b, u_chain, u_andV, u_addI, u_subI, u_mulI, u_divI, u_modI, u_powI, u_cmpI, u_eqI, u_eqS, u_eqB, u_abs, u_intI, u_intB, u_newT, u_newF, u_isN, u_notN, wVar, List.set_cons_zero, List.set_cons_succ, List.getElem?_cons_zero, List.getElem?_cons_succ, List.length_cons, List.length_nil, u_lc, u_for, u_r1, u_r2, u_r3, u_num, u_notV, u_yes, u_w0, u_w1, u_dput, u_get2, u_dget, u_prop, u_fld, u_setF, u_make, u_makeS, u_met, u_calO, u_orT, u_tupIt, u_dc, u_maxDd, u_dnew, u_tupi, ix_p0, ix_p1, wSl, woNone, woSome]))
  refine loop_rest (fun l ρ h' => ∃ b2 t a2 a3, l = encs b2 ∧ ρ = [some (.tup (encs b)), some (.int ((t : Nat) : Int)), a2, a3] ∧ h = h' ∧ okB b2 = true ∧ dptB b2 ≤ dptB b ∧ t + sizB b2 = sizB b) (fun _ _ _ _ => trivial) ?_ ?_ _ _ _
    ⟨b, 0, _, _, rfl, rfl, rfl, ok, Nat.le_refl _, Nat.zero_add _⟩
  · rintro x l _ _ K ⟨b2, t, a2, a3, hl, rfl, rfl, ok2, dp2, ln⟩ k
    obtain ⟨a, r, rfl, rfl, rfl⟩ := encs_cons hl
    obtain ⟨oa, or_⟩ := okB_cons ok2
    rw [dptB] at dp2
    rw [sizB] at ln
    have di := dpt_inn (a := a)
    rw [u_gN]
    dsimp only [List.set_cons_zero, List.set_cons_succ]
    ((try dsimp only); rw [u_seq]; (try simp only [u_asg, u_gN, u_ret, u_retN, u_skip, u_expr, u_ifs, u_c, u_op, u_neg, u_test, u_and, u_or, u_not, u_if, u_nil, u_cons, u_tup, u_lst, u_callP, u_call, u_b, u_chain, u_andV, u_addI, u_subI, u_mulI, u_divI, u_modI, u_powI, u_cmpI, u_eqI, u_eqS, u_eqB, u_abs, u_intI, u_intB, u_newT, u_newF, u_isN, u_notN, wVar, List.set_cons_zero, List.set_cons_succ, List.getElem?_cons_zero, List.getElem?_cons_succ, List.length_cons, List.length_nil, u_lc, u_for, u_r1, u_r2, u_r3, u_num, u_notV, u_yes, u_w0, u_w1, u_dput, u_get2, u_dget, u_prop, u_fld, u_setF, u_make, u_makeS, u_met, u_calO, u_orT, u_tupIt, u_dc, u_maxDd, u_dnew, u_tupi, ix_p0, ix_p1, wSl, woNone, woSome]))
    refine ⟨trivial, go_inn oa ⟨trivial, inn a, rfl, okA_inn oa, by omega, ?_⟩⟩
    try simp only [u_asg, u_gN, u_ret, u_retN, u_skip, u_expr, u_ifs, u_c, u_op, u_neg, u_test, u_and, u_or, u_not, u_if, u_nil, u_cons, u_tup, u_lst, u_callP, u_call, u_b, u_chain, u_andV, u_addI, u_subI, u_mulI, u_divI, u_modI, u_powI, u_cmpI, u_eqI, u_eqS, u_eqB, u_abs, u_intI, u_intB, u_newT, u_newF, u_isN, u_notN, wVar, List.set_cons_zero, List.set_cons_succ, List.getElem?_cons_zero, List.getElem?_cons_succ, List.length_cons, List.length_nil, u_lc, u_for, u_r1, u_r2, u_r3, u_num, u_notV, u_yes, u_w0, u_w1, u_dput, u_get2, u_dget, u_prop, u_fld, u_setF, u_make, u_makeS, u_met, u_calO, u_orT, u_tupIt, u_dc, u_maxDd, u_dnew, u_tupi, ix_p0, ix_p1, wSl, woNone, woSome]
    rw [ix_word]
    try simp only [u_asg, u_gN, u_ret, u_retN, u_skip, u_expr, u_ifs, u_c, u_op, u_neg, u_test, u_and, u_or, u_not, u_if, u_nil, u_cons, u_tup, u_lst, u_callP, u_call, u_b, u_chain, u_andV, u_addI, u_subI, u_mulI, u_divI, u_modI, u_powI, u_cmpI, u_eqI, u_eqS, u_eqB, u_abs, u_intI, u_intB, u_newT, u_newF, u_isN, u_notN, wVar, List.set_cons_zero, List.set_cons_succ, List.getElem?_cons_zero, List.getElem?_cons_succ, List.length_cons, List.length_nil, u_lc, u_for, u_r1, u_r2, u_r3, u_num, u_notV, u_yes, u_w0, u_w1, u_dput, u_get2, u_dget, u_prop, u_fld, u_setF, u_make, u_makeS, u_met, u_calO, u_orT, u_tupIt, u_dc, u_maxDd, u_dnew, u_tupi, ix_p0, ix_p1, wSl, woNone, woSome]
    by_cases hr : word a = "repeat"
    · rw [if_pos (decide_eq_true hr)]
      obtain ⟨m, c, rfl⟩ := (word_rep oa).mp hr
      have om := oa
      rw [okA, Bool.and_eq_true, decide_eq_true_iff] at om
      rw [ix_rep1]
      try simp only [u_asg, u_gN, u_ret, u_retN, u_skip, u_expr, u_ifs, u_c, u_op, u_neg, u_test, u_and, u_or, u_not, u_if, u_nil, u_cons, u_tup, u_lst, u_callP, u_call, u_b, u_chain, u_andV, u_addI, u_subI, u_mulI, u_divI, u_modI, u_powI, u_cmpI, u_eqI, u_eqS, u_eqB, u_abs, u_intI, u_intB, u_newT, u_newF, u_isN, u_notN, wVar, List.set_cons_zero, List.set_cons_succ, List.getElem?_cons_zero, List.getElem?_cons_succ, List.length_cons, List.length_nil, u_lc, u_for, u_r1, u_r2, u_r3, u_num, u_notV, u_yes, u_w0, u_w1, u_dput, u_get2, u_dget, u_prop, u_fld, u_setF, u_make, u_makeS, u_met, u_calO, u_orT, u_tupIt, u_dc, u_maxDd, u_dnew, u_tupi, ix_p0, ix_p1, wSl, woNone, woSome]
      have e : (t : Int) + (m : Int) * (sizB (inn (.rep m c)) : Nat) = ((t + sizA (.rep m c) : Nat) : Int) := by rw [sizA, inn]; simp [Int.natCast_add]
      rw [e]
      exact ⟨big_mul om.1, k _ _ ⟨r, _, _, _, rfl, rfl, rfl, or_, by omega, by omega⟩⟩
    · rw [if_neg (by rw [decide_eq_false hr]; decide)]
      have sa := sizA_non hr
      have e : (t : Int) + (1 + (sizB (inn a) : Nat)) = ((t + sizA a : Nat) : Int) := by rw [sa]; simp [Int.natCast_add]
      rw [e]
      exact k _ _ ⟨r, _, _, _, rfl, rfl, rfl, or_, by omega, by omega⟩
  · rintro _ _ ⟨b2, t, a2, a3, hl, rfl, rfl, ok2, dp2, ln⟩
    obtain rfl := encs_nil hl
    try simp only [u_asg, u_gN, u_ret, u_retN, u_skip, u_expr, u_ifs, u_c, u_op, u_neg, u_test, u_and, u_or, u_not, u_if, u_nil, u_cons, u_tup, u_lst, u_callP, u_call, u_b, u_chain, u_andV, u_addI, u_subI, u_mulI, u_divI, u_modI, u_powI, u_cmpI, u_eqI, u_eqS, u_eqB, u_abs, u_intI, u_intB, u_newT, u_newF, u_isN, u_notN, wVar, List.set_cons_zero, List.set_cons_succ, List.getElem?_cons_zero, List.getElem?_cons_succ, List.length_cons, List.length_nil, u_lc, u_for, u_r1, u_r2, u_r3, u_num, u_notV, u_yes, u_w0, u_w1, u_dput, u_get2, u_dget, u_prop, u_fld, u_setF, u_make, u_makeS, u_met, u_calO, u_orT, u_tupIt, u_dc, u_maxDd, u_dnew, u_tupi, ix_p0, ix_p1, wSl, woNone, woSome]
    rw [sizB, Nat.add_zero] at ln
    rw [ln]
    exact fin_of q
theorem p_bytes_in (z : Ad) (n : Nat) : ∀ ds h Q X, S_bytes_in z (n + 1) ds h Q X → w_bytes_in z n (endsD Q X) (startD 3 ds) h := by
  rintro ds h Q X ⟨b, rfl, ok, dp, q⟩
  show w_bytes_in z n (endsD Q X) [some (.tup (encs b)), none, none] h
  unfold w_bytes_in
  ((try dsimp only); rw [u_seq]; (try simp only [u_asg, u_gN, u_ret, u_retN, u_skip, u_expr, u_ifs, u_c, u_op, u_neg, u_test, u_and, u_or, u_not, u_if, u_nil, u_cons, u_tup, u_lst, u_callP, u_call, u_b, u_chain, u_andV, u_addI, u_subI, u_mulI, u_divI, u_modI, u_powI, u_cmpI, u_eqI, u_eqS, u_eqB, u_abs, u_intI, u_intB, u_newT, u_newF, u_isN, u_notN, wVar, List.set_cons_zero, List.set_cons_succ, List.getElem?_cons_zero, List.getElem?_cons_succ, List.length_cons, List.length_nil, u_lc, u_for, u_r1, u_r2, u_r3, u_num, u_notV, u_yes, u_w0, u_w1, u_dput, u_get2, u_dget, u_prop, u_fld, u_setF, u_make, u_makeS, u_met, u_calO, u_orT, u_tupIt, u_dc, u_maxDd, u_dnew, u_tupi, ix_p0, ix_p1, wSl, woNone, woSome]))
  ((try dsimp only); rw [u_seq]; (try simp only [u_asg, u_gN, u_ret, u_retN, u_skip, u_expr, u_ifs, u_c, u_op, u_neg, u_test, u_and, u_or, u_not, u_if, u_nil, u_cons, u_tup, u_lst, u_callP, u_call, u_b, u_chain, u_andV, u_addI, u_subI, u_mulI, u_divI, u_modI, u_powI, u_cmpI, u_eqI, u_eqS, u_eqB, u_abs, u_intI, u_intB, u_newT, u_newF, u_isN, u_notN, wVar, List.set_cons_zero, List.set_cons_succ, List.getElem?_cons_zero, List.getElem?_cons_succ, List.length_cons, List.length_nil, u_lc, u_for, u_r1, u_r2, u_r3, u_num, u_notV, u_yes, u_w0, u_w1, u_dput, u_get2, u_dget, u_prop, u_fld, u_setF, u_make, u_makeS, u_met, u_calO, u_orT, u_tupIt, u_dc, u_maxDd, u_dnew, u_tupi, ix_p0, ix_p1, wSl, woNone, woSome]))
  refine loop_rest (fun l ρ h' => ∃ b2 t a2, l = encs b2 ∧ ρ = [some (.tup (encs b)), some (.int ((t : Nat) : Int)), a2] ∧ h = h' ∧ okB b2 = true ∧ dptB b2 ≤ dptB b ∧ t + bynB b2 = bynB b) (fun _ _ _ _ => trivial) ?_ ?_ _ _ _
    ⟨b, 0, _, rfl, rfl, rfl, ok, Nat.le_refl _, Nat.zero_add _⟩
  · rintro x l _ _ K ⟨b2, t, a2, hl, rfl, rfl, ok2, dp2, ln⟩ k
    obtain ⟨a, r, rfl, rfl, rfl⟩ := encs_cons hl
    obtain ⟨oa, or_⟩ := okB_cons ok2
    rw [dptB] at dp2
    rw [bynB] at ln
    rw [u_gN]
    dsimp only [List.set_cons_zero, List.set_cons_succ]
    try simp only [u_asg, u_gN, u_ret, u_retN, u_skip, u_expr, u_ifs, u_c, u_op, u_neg, u_test, u_and, u_or, u_not, u_if, u_nil, u_cons, u_tup, u_lst, u_callP, u_call, u_b, u_chain, u_andV, u_addI, u_subI, u_mulI, u_divI, u_modI, u_powI, u_cmpI, u_eqI, u_eqS, u_eqB, u_abs, u_intI, u_intB, u_newT, u_newF, u_isN, u_notN, wVar, List.set_cons_zero, List.set_cons_succ, List.getElem?_cons_zero, List.getElem?_cons_succ, List.length_cons, List.length_nil, u_lc, u_for, u_r1, u_r2, u_r3, u_num, u_notV, u_yes, u_w0, u_w1, u_dput, u_get2, u_dget, u_prop, u_fld, u_setF, u_make, u_makeS, u_met, u_calO, u_orT, u_tupIt, u_dc, u_maxDd, u_dnew, u_tupi, ix_p0, ix_p1, wSl, woNone, woSome]
    rw [ix_word]
    try simp only [u_asg, u_gN, u_ret, u_retN, u_skip, u_expr, u_ifs, u_c, u_op, u_neg, u_test, u_and, u_or, u_not, u_if, u_nil, u_cons, u_tup, u_lst, u_callP, u_call, u_b, u_chain, u_andV, u_addI, u_subI, u_mulI, u_divI, u_modI, u_powI, u_cmpI, u_eqI, u_eqS, u_eqB, u_abs, u_intI, u_intB, u_newT, u_newF, u_isN, u_notN, wVar, List.set_cons_zero, List.set_cons_succ, List.getElem?_cons_zero, List.getElem?_cons_succ, List.length_cons, List.length_nil, u_lc, u_for, u_r1, u_r2, u_r3, u_num, u_notV, u_yes, u_w0, u_w1, u_dput, u_get2, u_dget, u_prop, u_fld, u_setF, u_make, u_makeS, u_met, u_calO, u_orT, u_tupIt, u_dc, u_maxDd, u_dnew, u_tupi, ix_p0, ix_p1, wSl, woNone, woSome]
    by_cases hr : word a = "repeat"
    · rw [if_pos (decide_eq_true hr)]
      obtain ⟨m, c, rfl⟩ := (word_rep oa).mp hr
      have om := oa
      rw [okA, Bool.and_eq_true, decide_eq_true_iff] at om
      rw [ix_rep1]
      rw [ix_rep2]
      rw [dptA] at dp2
      refine ⟨trivial, c, rfl, om.2, by omega, ?_⟩
      try simp only [u_asg, u_gN, u_ret, u_retN, u_skip, u_expr, u_ifs, u_c, u_op, u_neg, u_test, u_and, u_or, u_not, u_if, u_nil, u_cons, u_tup, u_lst, u_callP, u_call, u_b, u_chain, u_andV, u_addI, u_subI, u_mulI, u_divI, u_modI, u_powI, u_cmpI, u_eqI, u_eqS, u_eqB, u_abs, u_intI, u_intB, u_newT, u_newF, u_isN, u_notN, wVar, List.set_cons_zero, List.set_cons_succ, List.getElem?_cons_zero, List.getElem?_cons_succ, List.length_cons, List.length_nil, u_lc, u_for, u_r1, u_r2, u_r3, u_num, u_notV, u_yes, u_w0, u_w1, u_dput, u_get2, u_dget, u_prop, u_fld, u_setF, u_make, u_makeS, u_met, u_calO, u_orT, u_tupIt, u_dc, u_maxDd, u_dnew, u_tupi, ix_p0, ix_p1, wSl, woNone, woSome]
      have e : (t : Int) + (m : Int) * (bynB c : Nat) = ((t + bynA (.rep m c) : Nat) : Int) := by rw [bynA]; simp [Int.natCast_add]
      rw [e]
      exact ⟨big_mul om.1, k _ _ ⟨r, _, _, rfl, rfl, rfl, or_, by omega, by omega⟩⟩
    · rw [if_neg (by rw [decide_eq_false hr]; decide)]
      refine ⟨trivial, go_byt oa ?_⟩
      try simp only [u_asg, u_gN, u_ret, u_retN, u_skip, u_expr, u_ifs, u_c, u_op, u_neg, u_test, u_and, u_or, u_not, u_if, u_nil, u_cons, u_tup, u_lst, u_callP, u_call, u_b, u_chain, u_andV, u_addI, u_subI, u_mulI, u_divI, u_modI, u_powI, u_cmpI, u_eqI, u_eqS, u_eqB, u_abs, u_intI, u_intB, u_newT, u_newF, u_isN, u_notN, wVar, List.set_cons_zero, List.set_cons_succ, List.getElem?_cons_zero, List.getElem?_cons_succ, List.length_cons, List.length_nil, u_lc, u_for, u_r1, u_r2, u_r3, u_num, u_notV, u_yes, u_w0, u_w1, u_dput, u_get2, u_dget, u_prop, u_fld, u_setF, u_make, u_makeS, u_met, u_calO, u_orT, u_tupIt, u_dc, u_maxDd, u_dnew, u_tupi, ix_p0, ix_p1, wSl, woNone, woSome]
      have e : (t : Int) + (byt a : Nat) = ((t + bynA a : Nat) : Int) := by rw [bynA_non hr]; simp [Int.natCast_add]
      rw [e]
      exact k _ _ ⟨r, _, _, rfl, rfl, rfl, or_, by omega, by omega⟩
  · rintro _ _ ⟨b2, t, a2, hl, rfl, rfl, ok2, dp2, ln⟩
    obtain rfl := encs_nil hl
    try simp only [u_asg, u_gN, u_ret, u_retN, u_skip, u_expr, u_ifs, u_c, u_op, u_neg, u_test, u_and, u_or, u_not, u_if, u_nil, u_cons, u_tup, u_lst, u_callP, u_call, u_b, u_chain, u_andV, u_addI, u_subI, u_mulI, u_divI, u_modI, u_powI, u_cmpI, u_eqI, u_eqS, u_eqB, u_abs, u_intI, u_intB, u_newT, u_newF, u_isN, u_notN, wVar, List.set_cons_zero, List.set_cons_succ, List.getElem?_cons_zero, List.getElem?_cons_succ, List.length_cons, List.length_nil, u_lc, u_for, u_r1, u_r2, u_r3, u_num, u_notV, u_yes, u_w0, u_w1, u_dput, u_get2, u_dget, u_prop, u_fld, u_setF, u_make, u_makeS, u_met, u_calO, u_orT, u_tupIt, u_dc, u_maxDd, u_dnew, u_tupi, ix_p0, ix_p1, wSl, woNone, woSome]
    rw [bynB, Nat.add_zero] at ln
    rw [ln]
    exact fin_of q
theorem go_max {x y : Nat} {h : AH} {Q : KD} (q : Q (.int ((max x y : Nat) : Int)) h) : dMax2 [.int x, .int y] h Q := by
  show Q (.int (if (y : Int) > x then (y : Int) else x)) h
  rw [show (if (y : Int) > x then (y : Int) else x) = ((max x y : Nat) : Int) by split <;> omega]
  exact q
theorem p_reach_in (z : Ad) (n : Nat) : ∀ ds h Q X, S_reach_in z (n + 1) ds h Q X → w_reach_in z n (endsD Q X) (startD 5 ds) h := by
  rintro ds h Q X ⟨b, rfl, ok, dp, d12, q⟩
  show w_reach_in z n (endsD Q X) [some (.tup (encs b)), none, none, none, none] h
  unfold w_reach_in
  ((try dsimp only); rw [u_seq]; (try simp only [u_asg, u_gN, u_ret, u_retN, u_skip, u_expr, u_ifs, u_c, u_op, u_neg, u_test, u_and, u_or, u_not, u_if, u_nil, u_cons, u_tup, u_lst, u_callP, u_call, u_b, u_chain, u_andV, u_addI, u_subI, u_mulI, u_divI, u_modI, u_powI, u_cmpI, u_eqI, u_eqS, u_eqB, u_abs, u_intI, u_intB, u_newT, u_newF, u_isN, u_notN, wVar, List.set_cons_zero, List.set_cons_succ, List.getElem?_cons_zero, List.getElem?_cons_succ, List.length_cons, List.length_nil, u_lc, u_for, u_r1, u_r2, u_r3, u_num, u_notV, u_yes, u_w0, u_w1, u_dput, u_get2, u_dget, u_prop, u_fld, u_setF, u_make, u_makeS, u_met, u_calO, u_orT, u_tupIt, u_dc, u_maxDd, u_dnew, u_tupi, ix_p0, ix_p1, wSl, woNone, woSome]))
  ((try dsimp only); rw [u_seq]; (try simp only [u_asg, u_gN, u_ret, u_retN, u_skip, u_expr, u_ifs, u_c, u_op, u_neg, u_test, u_and, u_or, u_not, u_if, u_nil, u_cons, u_tup, u_lst, u_callP, u_call, u_b, u_chain, u_andV, u_addI, u_subI, u_mulI, u_divI, u_modI, u_powI, u_cmpI, u_eqI, u_eqS, u_eqB, u_abs, u_intI, u_intB, u_newT, u_newF, u_isN, u_notN, wVar, List.set_cons_zero, List.set_cons_succ, List.getElem?_cons_zero, List.getElem?_cons_succ, List.length_cons, List.length_nil, u_lc, u_for, u_r1, u_r2, u_r3, u_num, u_notV, u_yes, u_w0, u_w1, u_dput, u_get2, u_dget, u_prop, u_fld, u_setF, u_make, u_makeS, u_met, u_calO, u_orT, u_tupIt, u_dc, u_maxDd, u_dnew, u_tupi, ix_p0, ix_p1, wSl, woNone, woSome]))
  ((try dsimp only); rw [u_seq]; (try simp only [u_asg, u_gN, u_ret, u_retN, u_skip, u_expr, u_ifs, u_c, u_op, u_neg, u_test, u_and, u_or, u_not, u_if, u_nil, u_cons, u_tup, u_lst, u_callP, u_call, u_b, u_chain, u_andV, u_addI, u_subI, u_mulI, u_divI, u_modI, u_powI, u_cmpI, u_eqI, u_eqS, u_eqB, u_abs, u_intI, u_intB, u_newT, u_newF, u_isN, u_notN, wVar, List.set_cons_zero, List.set_cons_succ, List.getElem?_cons_zero, List.getElem?_cons_succ, List.length_cons, List.length_nil, u_lc, u_for, u_r1, u_r2, u_r3, u_num, u_notV, u_yes, u_w0, u_w1, u_dput, u_get2, u_dget, u_prop, u_fld, u_setF, u_make, u_makeS, u_met, u_calO, u_orT, u_tupIt, u_dc, u_maxDd, u_dnew, u_tupi, ix_p0, ix_p1, wSl, woNone, woSome]))
  refine loop_rest (fun l ρ h' => ∃ b2 t m a3 a4, l = encs b2 ∧ ρ = [some (.tup (encs b)), some (.int ((t : Nat) : Int)), some (.int ((m : Nat) : Int)), a3, a4] ∧ h = h' ∧ okB b2 = true ∧ dptB b2 ≤ dptB b ∧ rchL b2 t m = rchB b) (fun _ _ _ _ => trivial) ?_ ?_ _ _ _
    ⟨b, 0, 0, _, _, rfl, rfl, rfl, ok, Nat.le_refl _, rfl⟩
  · rintro x l _ _ K ⟨b2, t, m, a3, a4, hl, rfl, rfl, ok2, dp2, ln⟩ k
    obtain ⟨a, r, rfl, rfl, rfl⟩ := encs_cons hl
    obtain ⟨oa, or_⟩ := okB_cons ok2
    rw [dptB] at dp2
    rw [rchL] at ln
    rw [u_gN]
    dsimp only [List.set_cons_zero, List.set_cons_succ]
    try simp only [u_asg, u_gN, u_ret, u_retN, u_skip, u_expr, u_ifs, u_c, u_op, u_neg, u_test, u_and, u_or, u_not, u_if, u_nil, u_cons, u_tup, u_lst, u_callP, u_call, u_b, u_chain, u_andV, u_addI, u_subI, u_mulI, u_divI, u_modI, u_powI, u_cmpI, u_eqI, u_eqS, u_eqB, u_abs, u_intI, u_intB, u_newT, u_newF, u_isN, u_notN, wVar, List.set_cons_zero, List.set_cons_succ, List.getElem?_cons_zero, List.getElem?_cons_succ, List.length_cons, List.length_nil, u_lc, u_for, u_r1, u_r2, u_r3, u_num, u_notV, u_yes, u_w0, u_w1, u_dput, u_get2, u_dget, u_prop, u_fld, u_setF, u_make, u_makeS, u_met, u_calO, u_orT, u_tupIt, u_dc, u_maxDd, u_dnew, u_tupi, ix_p0, ix_p1, wSl, woNone, woSome]
    rw [ix_word]
    try simp only [u_asg, u_gN, u_ret, u_retN, u_skip, u_expr, u_ifs, u_c, u_op, u_neg, u_test, u_and, u_or, u_not, u_if, u_nil, u_cons, u_tup, u_lst, u_callP, u_call, u_b, u_chain, u_andV, u_addI, u_subI, u_mulI, u_divI, u_modI, u_powI, u_cmpI, u_eqI, u_eqS, u_eqB, u_abs, u_intI, u_intB, u_newT, u_newF, u_isN, u_notN, wVar, List.set_cons_zero, List.set_cons_succ, List.getElem?_cons_zero, List.getElem?_cons_succ, List.length_cons, List.length_nil, u_lc, u_for, u_r1, u_r2, u_r3, u_num, u_notV, u_yes, u_w0, u_w1, u_dput, u_get2, u_dget, u_prop, u_fld, u_setF, u_make, u_makeS, u_met, u_calO, u_orT, u_tupIt, u_dc, u_maxDd, u_dnew, u_tupi, ix_p0, ix_p1, wSl, woNone, woSome]
    by_cases hf : word a = "fork"
    · rw [if_pos (decide_eq_true hf)]
      obtain ⟨c, rfl⟩ := (word_fork oa).mp hf
      rw [okA] at oa
      rw [dptA] at dp2
      rw [ix_fork1]
      refine ⟨trivial, c, rfl, oa, by omega, by omega, ?_⟩
      try simp only [u_asg, u_gN, u_ret, u_retN, u_skip, u_expr, u_ifs, u_c, u_op, u_neg, u_test, u_and, u_or, u_not, u_if, u_nil, u_cons, u_tup, u_lst, u_callP, u_call, u_b, u_chain, u_andV, u_addI, u_subI, u_mulI, u_divI, u_modI, u_powI, u_cmpI, u_eqI, u_eqS, u_eqB, u_abs, u_intI, u_intB, u_newT, u_newF, u_isN, u_notN, wVar, List.set_cons_zero, List.set_cons_succ, List.getElem?_cons_zero, List.getElem?_cons_succ, List.length_cons, List.length_nil, u_lc, u_for, u_r1, u_r2, u_r3, u_num, u_notV, u_yes, u_w0, u_w1, u_dput, u_get2, u_dget, u_prop, u_fld, u_setF, u_make, u_makeS, u_met, u_calO, u_orT, u_tupIt, u_dc, u_maxDd, u_dnew, u_tupi, ix_p0, ix_p1, wSl, woNone, woSome]
      have e : (t : Int) + (rchB c : Nat) = ((t + rchB c : Nat) : Int) := by omega
      rw [e]
      refine go_max (k _ _ ⟨r, t, _, _, _, rfl, rfl, rfl, or_, by omega, ?_⟩)
      rw [← ln, rchA, bynA]; rfl
    · rw [if_neg (by rw [decide_eq_false hf]; decide)]
      rw [ix_word]
      try simp only [u_asg, u_gN, u_ret, u_retN, u_skip, u_expr, u_ifs, u_c, u_op, u_neg, u_test, u_and, u_or, u_not, u_if, u_nil, u_cons, u_tup, u_lst, u_callP, u_call, u_b, u_chain, u_andV, u_addI, u_subI, u_mulI, u_divI, u_modI, u_powI, u_cmpI, u_eqI, u_eqS, u_eqB, u_abs, u_intI, u_intB, u_newT, u_newF, u_isN, u_notN, wVar, List.set_cons_zero, List.set_cons_succ, List.getElem?_cons_zero, List.getElem?_cons_succ, List.length_cons, List.length_nil, u_lc, u_for, u_r1, u_r2, u_r3, u_num, u_notV, u_yes, u_w0, u_w1, u_dput, u_get2, u_dget, u_prop, u_fld, u_setF, u_make, u_makeS, u_met, u_calO, u_orT, u_tupIt, u_dc, u_maxDd, u_dnew, u_tupi, ix_p0, ix_p1, wSl, woNone, woSome]
      have other : word a ≠ "repeat" → K [some (.tup (encs b)), some (.int ((t + byt a : Nat) : Int)), some (.int (m : Nat)), some (enc a), a4] h := fun hr => by
        refine k _ _ ⟨r, _, _, _, _, rfl, rfl, rfl, or_, by omega, ?_⟩
        rw [← ln, bynA_non hr]
        cases a with
        | bare w => rw [rchA]
        | write i => rw [rchA]
        | fork c => exact absurd rfl hf
        | rep i c => exact absurd rfl hr
      by_cases hr : word a = "repeat"
      · rw [if_pos (decide_eq_true hr)]
        obtain ⟨i, c, rfl⟩ := (word_rep oa).mp hr
        have om := oa
        rw [okA, Bool.and_eq_true, decide_eq_true_iff] at om
        rw [dptA] at dp2
        rw [ix_rep1]
        try simp only [u_asg, u_gN, u_ret, u_retN, u_skip, u_expr, u_ifs, u_c, u_op, u_neg, u_test, u_and, u_or, u_not, u_if, u_nil, u_cons, u_tup, u_lst, u_callP, u_call, u_b, u_chain, u_andV, u_addI, u_subI, u_mulI, u_divI, u_modI, u_powI, u_cmpI, u_eqI, u_eqS, u_eqB, u_abs, u_intI, u_intB, u_newT, u_newF, u_isN, u_notN, wVar, List.set_cons_zero, List.set_cons_succ, List.getElem?_cons_zero, List.getElem?_cons_succ, List.length_cons, List.length_nil, u_lc, u_for, u_r1, u_r2, u_r3, u_num, u_notV, u_yes, u_w0, u_w1, u_dput, u_get2, u_dget, u_prop, u_fld, u_setF, u_make, u_makeS, u_met, u_calO, u_orT, u_tupIt, u_dc, u_maxDd, u_dnew, u_tupi, ix_p0, ix_p1, wSl, woNone, woSome]
        rw [rchA] at ln
        by_cases ci : i = 0
        · rw [if_neg (by rw [decide_eq_false (by omega)]; decide)]
          refine ⟨trivial, go_byt oa ?_⟩
          try simp only [u_asg, u_gN, u_ret, u_retN, u_skip, u_expr, u_ifs, u_c, u_op, u_neg, u_test, u_and, u_or, u_not, u_if, u_nil, u_cons, u_tup, u_lst, u_callP, u_call, u_b, u_chain, u_andV, u_addI, u_subI, u_mulI, u_divI, u_modI, u_powI, u_cmpI, u_eqI, u_eqS, u_eqB, u_abs, u_intI, u_intB, u_newT, u_newF, u_isN, u_notN, wVar, List.set_cons_zero, List.set_cons_succ, List.getElem?_cons_zero, List.getElem?_cons_succ, List.length_cons, List.length_nil, u_lc, u_for, u_r1, u_r2, u_r3, u_num, u_notV, u_yes, u_w0, u_w1, u_dput, u_get2, u_dget, u_prop, u_fld, u_setF, u_make, u_makeS, u_met, u_calO, u_orT, u_tupIt, u_dc, u_maxDd, u_dnew, u_tupi, ix_p0, ix_p1, wSl, woNone, woSome]
          have e0 : (t : Int) + ((byt (.rep i c) : Nat) : Int) = (t : Int) := by rw [byt]; simp
          rw [e0]
          refine k _ _ ⟨r, t, m, _, _, rfl, rfl, rfl, or_, by omega, ?_⟩
          rw [if_pos ci] at ln
          rw [← ln, bynA, ci, Nat.zero_mul, Nat.add_zero]
        · rw [if_pos (decide_eq_true (by omega))]
          rw [if_neg ci] at ln
          ((try dsimp only); rw [u_seq]; (try simp only [u_asg, u_gN, u_ret, u_retN, u_skip, u_expr, u_ifs, u_c, u_op, u_neg, u_test, u_and, u_or, u_not, u_if, u_nil, u_cons, u_tup, u_lst, u_callP, u_call, u_b, u_chain, u_andV, u_addI, u_subI, u_mulI, u_divI, u_modI, u_powI, u_cmpI, u_eqI, u_eqS, u_eqB, u_abs, u_intI, u_intB, u_newT, u_newF, u_isN, u_notN, wVar, List.set_cons_zero, List.set_cons_succ, List.getElem?_cons_zero, List.getElem?_cons_succ, List.length_cons, List.length_nil, u_lc, u_for, u_r1, u_r2, u_r3, u_num, u_notV, u_yes, u_w0, u_w1, u_dput, u_get2, u_dget, u_prop, u_fld, u_setF, u_make, u_makeS, u_met, u_calO, u_orT, u_tupIt, u_dc, u_maxDd, u_dnew, u_tupi, ix_p0, ix_p1, wSl, woNone, woSome]))
          rw [ix_rep2]
          refine ⟨trivial, c, rfl, om.2, by omega, ?_⟩
          ((try dsimp only); rw [u_seq]; (try simp only [u_asg, u_gN, u_ret, u_retN, u_skip, u_expr, u_ifs, u_c, u_op, u_neg, u_test, u_and, u_or, u_not, u_if, u_nil, u_cons, u_tup, u_lst, u_callP, u_call, u_b, u_chain, u_andV, u_addI, u_subI, u_mulI, u_divI, u_modI, u_powI, u_cmpI, u_eqI, u_eqS, u_eqB, u_abs, u_intI, u_intB, u_newT, u_newF, u_isN, u_notN, wVar, List.set_cons_zero, List.set_cons_succ, List.getElem?_cons_zero, List.getElem?_cons_succ, List.length_cons, List.length_nil, u_lc, u_for, u_r1, u_r2, u_r3, u_num, u_notV, u_yes, u_w0, u_w1, u_dput, u_get2, u_dget, u_prop, u_fld, u_setF, u_make, u_makeS, u_met, u_calO, u_orT, u_tupIt, u_dc, u_maxDd, u_dnew, u_tupi, ix_p0, ix_p1, wSl, woNone, woSome]))
          rw [ix_rep1]
          try simp only [u_asg, u_gN, u_ret, u_retN, u_skip, u_expr, u_ifs, u_c, u_op, u_neg, u_test, u_and, u_or, u_not, u_if, u_nil, u_cons, u_tup, u_lst, u_callP, u_call, u_b, u_chain, u_andV, u_addI, u_subI, u_mulI, u_divI, u_modI, u_powI, u_cmpI, u_eqI, u_eqS, u_eqB, u_abs, u_intI, u_intB, u_newT, u_newF, u_isN, u_notN, wVar, List.set_cons_zero, List.set_cons_succ, List.getElem?_cons_zero, List.getElem?_cons_succ, List.length_cons, List.length_nil, u_lc, u_for, u_r1, u_r2, u_r3, u_num, u_notV, u_yes, u_w0, u_w1, u_dput, u_get2, u_dget, u_prop, u_fld, u_setF, u_make, u_makeS, u_met, u_calO, u_orT, u_tupIt, u_dc, u_maxDd, u_dnew, u_tupi, ix_p0, ix_p1, wSl, woNone, woSome]
          refine ⟨.inl ⟨by omega, by omega⟩, ?_⟩
          rw [ix_rep2]
          refine ⟨trivial, c, rfl, om.2, by omega, by omega, ?_⟩
          try simp only [u_asg, u_gN, u_ret, u_retN, u_skip, u_expr, u_ifs, u_c, u_op, u_neg, u_test, u_and, u_or, u_not, u_if, u_nil, u_cons, u_tup, u_lst, u_callP, u_call, u_b, u_chain, u_andV, u_addI, u_subI, u_mulI, u_divI, u_modI, u_powI, u_cmpI, u_eqI, u_eqS, u_eqB, u_abs, u_intI, u_intB, u_newT, u_newF, u_isN, u_notN, wVar, List.set_cons_zero, List.set_cons_succ, List.getElem?_cons_zero, List.getElem?_cons_succ, List.length_cons, List.length_nil, u_lc, u_for, u_r1, u_r2, u_r3, u_num, u_notV, u_yes, u_w0, u_w1, u_dput, u_get2, u_dget, u_prop, u_fld, u_setF, u_make, u_makeS, u_met, u_calO, u_orT, u_tupIt, u_dc, u_maxDd, u_dnew, u_tupi, ix_p0, ix_p1, wSl, woNone, woSome]
          have e1 : (t : Int) + ((i : Int) - 1) * (bynB c : Nat) + (rchB c : Nat) = ((t + (i - 1) * bynB c + rchB c : Nat) : Int) := by
            rw [show ((i : Int) - 1) = ((i - 1 : Nat) : Int) by omega]; simp [Int.natCast_add]
          rw [e1]
          refine go_max ?_
          try simp only [u_asg, u_gN, u_ret, u_retN, u_skip, u_expr, u_ifs, u_c, u_op, u_neg, u_test, u_and, u_or, u_not, u_if, u_nil, u_cons, u_tup, u_lst, u_callP, u_call, u_b, u_chain, u_andV, u_addI, u_subI, u_mulI, u_divI, u_modI, u_powI, u_cmpI, u_eqI, u_eqS, u_eqB, u_abs, u_intI, u_intB, u_newT, u_newF, u_isN, u_notN, wVar, List.set_cons_zero, List.set_cons_succ, List.getElem?_cons_zero, List.getElem?_cons_succ, List.length_cons, List.length_nil, u_lc, u_for, u_r1, u_r2, u_r3, u_num, u_notV, u_yes, u_w0, u_w1, u_dput, u_get2, u_dget, u_prop, u_fld, u_setF, u_make, u_makeS, u_met, u_calO, u_orT, u_tupIt, u_dc, u_maxDd, u_dnew, u_tupi, ix_p0, ix_p1, wSl, woNone, woSome]
          rw [ix_rep1]
          try simp only [u_asg, u_gN, u_ret, u_retN, u_skip, u_expr, u_ifs, u_c, u_op, u_neg, u_test, u_and, u_or, u_not, u_if, u_nil, u_cons, u_tup, u_lst, u_callP, u_call, u_b, u_chain, u_andV, u_addI, u_subI, u_mulI, u_divI, u_modI, u_powI, u_cmpI, u_eqI, u_eqS, u_eqB, u_abs, u_intI, u_intB, u_newT, u_newF, u_isN, u_notN, wVar, List.set_cons_zero, List.set_cons_succ, List.getElem?_cons_zero, List.getElem?_cons_succ, List.length_cons, List.length_nil, u_lc, u_for, u_r1, u_r2, u_r3, u_num, u_notV, u_yes, u_w0, u_w1, u_dput, u_get2, u_dget, u_prop, u_fld, u_setF, u_make, u_makeS, u_met, u_calO, u_orT, u_tupIt, u_dc, u_maxDd, u_dnew, u_tupi, ix_p0, ix_p1, wSl, woNone, woSome]
          have e2 : (t : Int) + (i : Int) * (bynB c : Nat) = ((t + bynA (.rep i c) : Nat) : Int) := by rw [bynA]; simp [Int.natCast_add]
          rw [e2]
          exact ⟨big_mul om.1, k _ _ ⟨r, _, _, _, _, rfl, rfl, rfl, or_, by omega, by rw [← ln]; rfl⟩⟩
      · rw [if_neg (by rw [decide_eq_false hr]; decide)]
        refine ⟨trivial, go_byt oa ?_⟩
        try simp only [u_asg, u_gN, u_ret, u_retN, u_skip, u_expr, u_ifs, u_c, u_op, u_neg, u_test, u_and, u_or, u_not, u_if, u_nil, u_cons, u_tup, u_lst, u_callP, u_call, u_b, u_chain, u_andV, u_addI, u_subI, u_mulI, u_divI, u_modI, u_powI, u_cmpI, u_eqI, u_eqS, u_eqB, u_abs, u_intI, u_intB, u_newT, u_newF, u_isN, u_notN, wVar, List.set_cons_zero, List.set_cons_succ, List.getElem?_cons_zero, List.getElem?_cons_succ, List.length_cons, List.length_nil, u_lc, u_for, u_r1, u_r2, u_r3, u_num, u_notV, u_yes, u_w0, u_w1, u_dput, u_get2, u_dget, u_prop, u_fld, u_setF, u_make, u_makeS, u_met, u_calO, u_orT, u_tupIt, u_dc, u_maxDd, u_dnew, u_tupi, ix_p0, ix_p1, wSl, woNone, woSome]
        have e : (t : Int) + (byt a : Nat) = ((t + byt a : Nat) : Int) := by omega
        rw [e]
        exact other hr
  · rintro _ _ ⟨b2, t, m, a3, a4, hl, rfl, rfl, ok2, dp2, ln⟩
    obtain rfl := encs_nil hl
    try simp only [u_asg, u_gN, u_ret, u_retN, u_skip, u_expr, u_ifs, u_c, u_op, u_neg, u_test, u_and, u_or, u_not, u_if, u_nil, u_cons, u_tup, u_lst, u_callP, u_call, u_b, u_chain, u_andV, u_addI, u_subI, u_mulI, u_divI, u_modI, u_powI, u_cmpI, u_eqI, u_eqS, u_eqB, u_abs, u_intI, u_intB, u_newT, u_newF, u_isN, u_notN, wVar, List.set_cons_zero, List.set_cons_succ, List.getElem?_cons_zero, List.getElem?_cons_succ, List.length_cons, List.length_nil, u_lc, u_for, u_r1, u_r2, u_r3, u_num, u_notV, u_yes, u_w0, u_w1, u_dput, u_get2, u_dget, u_prop, u_fld, u_setF, u_make, u_makeS, u_met, u_calO, u_orT, u_tupIt, u_dc, u_maxDd, u_dnew, u_tupi, ix_p0, ix_p1, wSl, woNone, woSome]
    refine go_max (fin_of ?_)
    rw [rchL] at ln
    rw [ln]
    exact q
end PK
namespace PK
open PySem PySem.Spec L2 C8 DL

theorem flat_len {α : Type} (n : Nat) (xs : List α) : (List.replicate n xs).flatten.length = n * xs.length := by
  induction n with
  | zero => simp
  | succ n ih => rw [List.replicate_succ, List.flatten_cons, List.length_append, ih, Nat.add_mul]; omega
mutual
theorem unrA_len : ∀ a : Ac, (unrA a).length ≤ bigA a
  | .bare w => by rw [unrA, bigA]; exact Nat.le_refl _
  | .write n => by rw [unrA, bigA]; exact Nat.le_refl _
  | .fork b => by rw [unrA, bigA]; simp
  | .rep n b => by
    rw [unrA, bigA, flat_len]
    exact Nat.mul_le_mul (Nat.le_succ n) (unrB_len b)
theorem unrB_len : ∀ b : List Ac, (unrB b).length ≤ bigB b
  | [] => by rw [unrB, bigB]; exact Nat.le_refl _
  | a :: r => by
    have := unrA_len a
    have := unrB_len r
    rw [unrB, bigB, List.length_append]; omega
end
theorem encs_rep (n : Nat) (b : List Ac) : encs (List.replicate n b).flatten = (List.replicate n (encs b)).flatten := by
  induction n with
  | zero => rfl
  | succ n ih => rw [List.replicate_succ, List.replicate_succ, List.flatten_cons, List.flatten_cons, encs_app, ih]
theorem unrA_non {a : Ac} (h1 : word a ≠ "repeat") (h2 : word a ≠ "fork") : unrA a = [a] := by
  cases a with
  | bare w => rw [unrA]
  | write m => rw [unrA]
  | fork c => exact absurd rfl h2
  | rep m c => exact absurd rfl h1
theorem bigA_pos : ∀ {a : Ac}, word a ≠ "repeat" → 1 ≤ bigA a := fun {a} h => by
  cases a with
  | bare w => rw [bigA]; exact Nat.le_refl _
  | write m => rw [bigA]; exact Nat.le_refl _
  | fork c => rw [bigA]; omega
  | rep m c => exact absurd rfl h
theorem p_unrolled_in (z : Ad) (n : Nat) : ∀ ds h Q X, S_unrolled_in z (n + 1) ds h Q X → w_unrolled_in z n (endsD Q X) (startD 3 ds) h := by
  rintro ds h Q X ⟨b, rfl, ok, dp, bg, q⟩
  show w_unrolled_in z n (endsD Q X) [some (.tup (encs b)), none, none] h
  unfold w_unrolled_in
  ((try dsimp only); rw [u_seq]; (try simp only [u_asg, u_gN, u_ret, u_retN, u_skip, u_expr, u_ifs, u_c, u_op, u_neg, u_test, u_and, u_or, u_not, u_if, u_nil, u_cons, u_tup, u_lst, u_callP, u_call, u_b, u_chain, u_andV, u_addI, u_subI, u_mulI, u_divI, u_modI, u_powI, u_cmpI, u_eqI, u_eqS, u_eqB, u_abs, u_intI, u_intB, u_newT, u_newF, u_isN, u_notN, wVar, List.set_cons_zero, List.set_cons_succ, List.getElem?_cons_zero, List.getElem?_cons_succ, List.length_cons, List.length_nil, u_lc, u_for, u_r1, u_r2, u_r3, u_num, u_notV, u_yes, u_w0, u_w1, u_dput, u_get2, u_dget, u_prop, u_fld, u_setF, u_make, u_makeS, u_met, u_calO, u_orT, u_tupIt, u_dc, u_maxDd, u_dnew, u_tupi, ix_p0, ix_p1, wSl, woNone, woSome]))
  refine ⟨Nat.zero_le _, fun f hf => ?_⟩
  ((try dsimp only); rw [u_seq]; (try simp only [u_asg, u_gN, u_ret, u_retN, u_skip, u_expr, u_ifs, u_c, u_op, u_neg, u_test, u_and, u_or, u_not, u_if, u_nil, u_cons, u_tup, u_lst, u_callP, u_call, u_b, u_chain, u_andV, u_addI, u_subI, u_mulI, u_divI, u_modI, u_powI, u_cmpI, u_eqI, u_eqS, u_eqB, u_abs, u_intI, u_intB, u_newT, u_newF, u_isN, u_notN, wVar, List.set_cons_zero, List.set_cons_succ, List.getElem?_cons_zero, List.getElem?_cons_succ, List.length_cons, List.length_nil, u_lc, u_for, u_r1, u_r2, u_r3, u_num, u_notV, u_yes, u_w0, u_w1, u_dput, u_get2, u_dget, u_prop, u_fld, u_setF, u_make, u_makeS, u_met, u_calO, u_orT, u_tupIt, u_dc, u_maxDd, u_dnew, u_tupi, ix_p0, ix_p1, wSl, woNone, woSome]))
  refine loop_rest (fun l ρ h' => ∃ b2 fs a2, l = encs b2 ∧ ρ = [some (.tup (encs b)), some (.ref f), a2] ∧ h' = up h f (.lst fs) ∧ okB b2 = true ∧ dptB b2 ≤ dptB b ∧ fs.length + bigB b2 ≤ bigB b ∧ fs ++ encs (unrB b2) = encs (unrB b)) (fun _ _ _ _ => trivial) ?_ ?_ _ _ _
    ⟨b, [], _, rfl, rfl, rfl, ok, Nat.le_refl _, by simp, rfl⟩
  · rintro x l _ _ K ⟨b2, fs, a2, hl, rfl, rfl, ok2, dp2, ln, eq⟩ k
    obtain ⟨a, r, rfl, rfl, rfl⟩ := encs_cons hl
    obtain ⟨oa, or_⟩ := okB_cons ok2
    rw [dptB] at dp2
    rw [bigB] at ln
    rw [unrB, encs_app] at eq
    rw [u_gN]
    dsimp only [List.set_cons_zero, List.set_cons_succ]
    try simp only [u_asg, u_gN, u_ret, u_retN, u_skip, u_expr, u_ifs, u_c, u_op, u_neg, u_test, u_and, u_or, u_not, u_if, u_nil, u_cons, u_tup, u_lst, u_callP, u_call, u_b, u_chain, u_andV, u_addI, u_subI, u_mulI, u_divI, u_modI, u_powI, u_cmpI, u_eqI, u_eqS, u_eqB, u_abs, u_intI, u_intB, u_newT, u_newF, u_isN, u_notN, wVar, List.set_cons_zero, List.set_cons_succ, List.getElem?_cons_zero, List.getElem?_cons_succ, List.length_cons, List.length_nil, u_lc, u_for, u_r1, u_r2, u_r3, u_num, u_notV, u_yes, u_w0, u_w1, u_dput, u_get2, u_dget, u_prop, u_fld, u_setF, u_make, u_makeS, u_met, u_calO, u_orT, u_tupIt, u_dc, u_maxDd, u_dnew, u_tupi, ix_p0, ix_p1, wSl, woNone, woSome]
    rw [ix_word]
    try simp only [u_asg, u_gN, u_ret, u_retN, u_skip, u_expr, u_ifs, u_c, u_op, u_neg, u_test, u_and, u_or, u_not, u_if, u_nil, u_cons, u_tup, u_lst, u_callP, u_call, u_b, u_chain, u_andV, u_addI, u_subI, u_mulI, u_divI, u_modI, u_powI, u_cmpI, u_eqI, u_eqS, u_eqB, u_abs, u_intI, u_intB, u_newT, u_newF, u_isN, u_notN, wVar, List.set_cons_zero, List.set_cons_succ, List.getElem?_cons_zero, List.getElem?_cons_succ, List.length_cons, List.length_nil, u_lc, u_for, u_r1, u_r2, u_r3, u_num, u_notV, u_yes, u_w0, u_w1, u_dput, u_get2, u_dget, u_prop, u_fld, u_setF, u_make, u_makeS, u_met, u_calO, u_orT, u_tupIt, u_dc, u_maxDd, u_dnew, u_tupi, ix_p0, ix_p1, wSl, woNone, woSome]
    by_cases hr : word a = "repeat"
    · rw [if_pos (decide_eq_true hr)]
      obtain ⟨m, c, rfl⟩ := (word_rep oa).mp hr
      have om := oa
      rw [okA, Bool.and_eq_true, decide_eq_true_iff] at om
      rw [dptA] at dp2
      rw [bigA] at ln
      have bc : bigB c ≤ (m + 1) * bigB c := Nat.le_mul_of_pos_left _ (by omega)
      have uc := unrB_len c
      have mc : m * (unrB c).length ≤ (m + 1) * bigB c := Nat.mul_le_mul (Nat.le_succ m) uc
      simp only [wMethT, u_asg, u_gN, u_ret, u_retN, u_skip, u_expr, u_ifs, u_c, u_op, u_neg, u_test, u_and, u_or, u_not, u_if, u_nil, u_cons, u_tup, u_lst, u_callP, u_call, u_b, u_chain, u_andV, u_addI, u_subI, u_mulI, u_divI, u_modI, u_powI, u_cmpI, u_eqI, u_eqS, u_eqB, u_abs, u_intI, u_intB, u_newT, u_newF, u_isN, u_notN, wVar, List.set_cons_zero, List.set_cons_succ, List.getElem?_cons_zero, List.getElem?_cons_succ, List.length_cons, List.length_nil, u_lc, u_for, u_r1, u_r2, u_r3, u_num, u_notV, u_yes, u_w0, u_w1, u_dput, u_get2, u_dget, u_prop, u_fld, u_setF, u_make, u_makeS, u_met, u_calO, u_orT, u_tupIt, u_dc, u_maxDd, u_dnew, u_tupi, ix_p0, ix_p1, wSl, woNone, woSome]
      refine ⟨⟨_, lst_ref up_same⟩, ?_⟩
      rw [ix_rep2]
      refine ⟨trivial, c, rfl, om.2, by omega, by omega, _, _, rfl, rfl, ?_⟩
      rw [u_newF]
      rw [ix_rep1]
      have mc2 : (encs (unrB c)).length * ((m : Nat) : Int).toNat ≤ 100000 := by
        rw [encs_len, Int.toNat_natCast, Nat.mul_comm]; omega
      refine ⟨_, rfl, by omega, by omega, sz_le mc2, ?_⟩
      rw [u_newF]
      rw [Int.toNat_natCast]
      refine ⟨f, fs, _, _, rfl, rfl, up_same, rfl, ?_, ?_⟩
      · refine sz_le ?_
        rw [flat_len, encs_len]; omega
      rw [up_up]
      refine k _ _ ⟨r, _, _, rfl, rfl, rfl, or_, by omega, ?_, ?_⟩
      · rw [List.length_append, flat_len, encs_len]; omega
      · rw [← eq, unrA, encs_rep, List.append_assoc]
    · rw [if_neg (by rw [decide_eq_false hr]; decide)]
      have b1 := bigA_pos hr
      simp only [wMethT, u_asg, u_gN, u_ret, u_retN, u_skip, u_expr, u_ifs, u_c, u_op, u_neg, u_test, u_and, u_or, u_not, u_if, u_nil, u_cons, u_tup, u_lst, u_callP, u_call, u_b, u_chain, u_andV, u_addI, u_subI, u_mulI, u_divI, u_modI, u_powI, u_cmpI, u_eqI, u_eqS, u_eqB, u_abs, u_intI, u_intB, u_newT, u_newF, u_isN, u_notN, wVar, List.set_cons_zero, List.set_cons_succ, List.getElem?_cons_zero, List.getElem?_cons_succ, List.length_cons, List.length_nil, u_lc, u_for, u_r1, u_r2, u_r3, u_num, u_notV, u_yes, u_w0, u_w1, u_dput, u_get2, u_dget, u_prop, u_fld, u_setF, u_make, u_makeS, u_met, u_calO, u_orT, u_tupIt, u_dc, u_maxDd, u_dnew, u_tupi, ix_p0, ix_p1, wSl, woNone, woSome]
      refine ⟨⟨_, lst_ref up_same⟩, ?_⟩
      rw [ix_word]
      try simp only [u_asg, u_gN, u_ret, u_retN, u_skip, u_expr, u_ifs, u_c, u_op, u_neg, u_test, u_and, u_or, u_not, u_if, u_nil, u_cons, u_tup, u_lst, u_callP, u_call, u_b, u_chain, u_andV, u_addI, u_subI, u_mulI, u_divI, u_modI, u_powI, u_cmpI, u_eqI, u_eqS, u_eqB, u_abs, u_intI, u_intB, u_newT, u_newF, u_isN, u_notN, wVar, List.set_cons_zero, List.set_cons_succ, List.getElem?_cons_zero, List.getElem?_cons_succ, List.length_cons, List.length_nil, u_lc, u_for, u_r1, u_r2, u_r3, u_num, u_notV, u_yes, u_w0, u_w1, u_dput, u_get2, u_dget, u_prop, u_fld, u_setF, u_make, u_makeS, u_met, u_calO, u_orT, u_tupIt, u_dc, u_maxDd, u_dnew, u_tupi, ix_p0, ix_p1, wSl, woNone, woSome]
      by_cases hf2 : word a = "fork"
      · rw [if_pos (decide_eq_true hf2)]
        obtain ⟨c, rfl⟩ := (word_fork oa).mp hf2
        rw [okA] at oa
        rw [dptA] at dp2
        rw [bigA] at ln
        rw [ix_fork1]
        refine ⟨trivial, c, rfl, oa, by omega, by omega, by decide, f, fs, _, rfl, rfl, up_same, sz_le (n := fs.length + 1) (by omega), ?_⟩
        rw [up_up]
        refine k _ _ ⟨r, _, _, rfl, rfl, rfl, or_, by omega, ?_, ?_⟩
        · simp; omega
        · rw [← eq, unrA, encs, encs, enc]; simp
      · rw [if_neg (by rw [decide_eq_false hf2]; decide)]
        refine ⟨f, fs, _, rfl, rfl, up_same, sz_le (n := fs.length + 1) (by omega), ?_⟩
        rw [up_up]
        refine k _ _ ⟨r, _, _, rfl, rfl, rfl, or_, by omega, ?_, ?_⟩
        · simp; omega
        · rw [← eq, unrA_non hr hf2, encs, encs]; simp
  · rintro _ _ ⟨b2, fs, a2, hl, rfl, rfl, ok2, dp2, ln, eq⟩
    obtain rfl := encs_nil hl
    try simp only [u_asg, u_gN, u_ret, u_retN, u_skip, u_expr, u_ifs, u_c, u_op, u_neg, u_test, u_and, u_or, u_not, u_if, u_nil, u_cons, u_tup, u_lst, u_callP, u_call, u_b, u_chain, u_andV, u_addI, u_subI, u_mulI, u_divI, u_modI, u_powI, u_cmpI, u_eqI, u_eqS, u_eqB, u_abs, u_intI, u_intB, u_newT, u_newF, u_isN, u_notN, wVar, List.set_cons_zero, List.set_cons_succ, List.getElem?_cons_zero, List.getElem?_cons_succ, List.length_cons, List.length_nil, u_lc, u_for, u_r1, u_r2, u_r3, u_num, u_notV, u_yes, u_w0, u_w1, u_dput, u_get2, u_dget, u_prop, u_fld, u_setF, u_make, u_makeS, u_met, u_calO, u_orT, u_tupIt, u_dc, u_maxDd, u_dnew, u_tupi, ix_p0, ix_p1, wSl, woNone, woSome]
    rw [unrB, encs, List.append_nil] at eq
    refine ⟨_, _, rfl, seq_ref up_same, ?_⟩
    rw [eq]
    exact fin_new hf q
mutual
theorem wrdA_wlk : ∀ (a : Ac) (p : List Nat), (wlkA p a).map (fun x => word x.2) = wrdA a
  | .bare w, p => by rw [wlkA, wrdA]; rfl
  | .write n, p => by rw [wlkA, wrdA]; rfl
  | .fork b, p => by rw [wlkA, wrdA, List.map_cons, wrdB_wlk b p 0]; rfl
  | .rep n b, p => by rw [wlkA, wrdA, List.map_cons, wrdB_wlk b p 0]; rfl
theorem wrdB_wlk : ∀ (b : List Ac) (p : List Nat) (i : Nat), (wlkB p i b).map (fun x => word x.2) = wrdB b
  | [], p, i => by rw [wlkB, wrdB]; rfl
  | a :: r, p, i => by rw [wlkB, wrdB, List.map_append, wrdA_wlk a, wrdB_wlk r]
end
theorem p_words_in (z : Ad) : ∀ ds h Q X, S_words_in z ds h Q X → w_words_in z (endsD Q X) (startD 3 ds) h := by
  rintro ds h Q X ⟨b, rfl, ok, dp, ln, q⟩
  show w_words_in z (endsD Q X) [some (.tup (encs b)), none, none] h
  unfold w_words_in
  try simp only [u_asg, u_gN, u_ret, u_retN, u_skip, u_expr, u_ifs, u_c, u_op, u_neg, u_test, u_and, u_or, u_not, u_if, u_nil, u_cons, u_tup, u_lst, u_callP, u_call, u_b, u_chain, u_andV, u_addI, u_subI, u_mulI, u_divI, u_modI, u_powI, u_cmpI, u_eqI, u_eqS, u_eqB, u_abs, u_intI, u_intB, u_newT, u_newF, u_isN, u_notN, wVar, List.set_cons_zero, List.set_cons_succ, List.getElem?_cons_zero, List.getElem?_cons_succ, List.length_cons, List.length_nil, u_lc, u_for, u_r1, u_r2, u_r3, u_num, u_notV, u_yes, u_w0, u_w1, u_dput, u_get2, u_dget, u_prop, u_fld, u_setF, u_make, u_makeS, u_met, u_calO, u_orT, u_tupIt, u_dc, u_maxDd, u_dnew, u_tupi, ix_p0, ix_p1, wSl, woNone, woSome]
  simp only [iSeq, u_asg, u_gN, u_ret, u_retN, u_skip, u_expr, u_ifs, u_c, u_op, u_neg, u_test, u_and, u_or, u_not, u_if, u_nil, u_cons, u_tup, u_lst, u_callP, u_call, u_b, u_chain, u_andV, u_addI, u_subI, u_mulI, u_divI, u_modI, u_powI, u_cmpI, u_eqI, u_eqS, u_eqB, u_abs, u_intI, u_intB, u_newT, u_newF, u_isN, u_notN, wVar, List.set_cons_zero, List.set_cons_succ, List.getElem?_cons_zero, List.getElem?_cons_succ, List.length_cons, List.length_nil, u_lc, u_for, u_r1, u_r2, u_r3, u_num, u_notV, u_yes, u_w0, u_w1, u_dput, u_get2, u_dget, u_prop, u_fld, u_setF, u_make, u_makeS, u_met, u_calO, u_orT, u_tupIt, u_dc, u_maxDd, u_dnew, u_tupi, ix_p0, ix_p1, wSl, woNone, woSome]
  refine ⟨Nat.zero_le _, trivial, b, [], rfl, ok, by omega, by simp; omega, ?_⟩
  intro r hr
  refine comp_pure (fun d => match d with
    | .tup [_, .tup (w :: _)] => some w
    | _ => none) (fun _ => trivial) (by rw [List.length_map, wlkB_len]; exact sz_le (by omega)) ?_ ?_
  · intro y acc K hy la k
    obtain ⟨e, _, rfl⟩ := List.mem_map.mp hy
    rw [rowD, enc_eq] at k ⊢
    refine go_t2 (i := 1) (j := 2) ?_
    try simp only [u_asg, u_gN, u_ret, u_retN, u_skip, u_expr, u_ifs, u_c, u_op, u_neg, u_test, u_and, u_or, u_not, u_if, u_nil, u_cons, u_tup, u_lst, u_callP, u_call, u_b, u_chain, u_andV, u_addI, u_subI, u_mulI, u_divI, u_modI, u_powI, u_cmpI, u_eqI, u_eqS, u_eqB, u_abs, u_intI, u_intB, u_newT, u_newF, u_isN, u_notN, wVar, List.set_cons_zero, List.set_cons_succ, List.getElem?_cons_zero, List.getElem?_cons_succ, List.length_cons, List.length_nil, u_lc, u_for, u_r1, u_r2, u_r3, u_num, u_notV, u_yes, u_w0, u_w1, u_dput, u_get2, u_dget, u_prop, u_fld, u_setF, u_make, u_makeS, u_met, u_calO, u_orT, u_tupIt, u_dc, u_maxDd, u_dnew, u_tupi, ix_p0, ix_p1, wSl, woNone, woSome]
    try dsimp only [List.set_cons_zero, List.set_cons_succ, wipeD]
    try simp only [u_asg, u_gN, u_ret, u_retN, u_skip, u_expr, u_ifs, u_c, u_op, u_neg, u_test, u_and, u_or, u_not, u_if, u_nil, u_cons, u_tup, u_lst, u_callP, u_call, u_b, u_chain, u_andV, u_addI, u_subI, u_mulI, u_divI, u_modI, u_powI, u_cmpI, u_eqI, u_eqS, u_eqB, u_abs, u_intI, u_intB, u_newT, u_newF, u_isN, u_notN, wVar, List.set_cons_zero, List.set_cons_succ, List.getElem?_cons_zero, List.getElem?_cons_succ, List.length_cons, List.length_nil, u_lc, u_for, u_r1, u_r2, u_r3, u_num, u_notV, u_yes, u_w0, u_w1, u_dput, u_get2, u_dget, u_prop, u_fld, u_setF, u_make, u_makeS, u_met, u_calO, u_orT, u_tupIt, u_dc, u_maxDd, u_dnew, u_tupi, ix_p0, ix_p1, wSl, woNone, woSome]
    simp only [if_true]
    rw [u_ixTd at0]
    refine ⟨acc, up_same, la, ?_⟩
    rw [up_up]
    exact k
  · refine ⟨_, up_same, ?_⟩
    rw [if_neg (by decide), rm_up, rm_none hr]
    refine ⟨_, _, rfl, rfl, fin_of ?_⟩
    have e : List.filterMap (fun d => match d with
      | D.tup [_, .tup (w :: _)] => some w
      | _ => none) ((wlkB [] 0 b).map rowD) = (wrdB b).map .str := by
      rw [← wrdB_wlk b [] 0, List.map_map]
      generalize wlkB [] 0 b = l
      induction l with
      | nil => rfl
      | cons x l ih =>
        rw [List.map_cons, List.filterMap_cons, List.map_cons, ih]
        rw [rowD, enc_eq]; rfl
    rw [e]
    exact q
end PK
namespace PK
open PySem PySem.Spec L2 C8 DL

section
variable {z : Ad} {lm : Bool} {b : List Ac} {g : AH} {Q : KD} {X : KX} {ρ : EnvD} {i : Nat}
/-- the field of a program of either class -/
theorem go_held (e : ρ[i]? = some (some (prog z lm b))) (q : Q (.tup (encs b)) g) : wOrE (wFld z.Program "held" (wVar i)) (wFld z.LineProgram "held" (wVar i)) ρ g Q X := by
  cases lm with
  | false => exact .inl (by rw [u_fld, u_var e]; exact ⟨_, _, rfl, rfl, q⟩)
  | true => exact .inr (by rw [u_fld, u_var e]; exact ⟨_, _, rfl, rfl, q⟩)
theorem go_prop {S : FSpec} (e : ρ[i]? = some (some (prog z lm b))) (q : S [prog z lm b] g Q (fun _ _ => False)) : wOrE (wProp z.Program S (wVar i)) (wProp z.LineProgram S (wVar i)) ρ g Q X := by
  cases lm with
  | false => exact .inl (by rw [u_prop, u_var e]; exact ⟨⟨_, rfl⟩, q⟩)
  | true => exact .inr (by rw [u_prop, u_var e]; exact ⟨⟨_, rfl⟩, q⟩)
end
theorem p_Program___init__ (z : Ad) : ∀ ds h Q X, S_Program___init__ z ds h Q X → w_Program___init__ z (endsD Q X) (startD 5 ds) h := by
  rintro ds h Q X ⟨lm, a, b, rfl, ha, f, q⟩
  show w_Program___init__ z (endsD Q X) [some (.ref a), some (.tup (encs b)), none, none, none] h
  have d := f.dpt
  have s1 := f.siz
  have s2 := f.rch
  unfold w_Program___init__
  ((try dsimp only); rw [u_seq]; (try simp only [u_asg, u_gN, u_ret, u_retN, u_skip, u_expr, u_ifs, u_c, u_op, u_neg, u_test, u_and, u_or, u_not, u_if, u_nil, u_cons, u_tup, u_lst, u_callP, u_call, u_b, u_chain, u_andV, u_addI, u_subI, u_mulI, u_divI, u_modI, u_powI, u_cmpI, u_eqI, u_eqS, u_eqB, u_abs, u_intI, u_intB, u_newT, u_newF, u_isN, u_notN, wVar, List.set_cons_zero, List.set_cons_succ, List.getElem?_cons_zero, List.getElem?_cons_succ, List.length_cons, List.length_nil, u_lc, u_for, u_r1, u_r2, u_r3, u_num, u_notV, u_yes, u_w0, u_w1, u_dput, u_get2, u_dget, u_prop, u_fld, u_setF, u_make, u_makeS, u_met, u_calO, u_orT, u_tupIt, u_dc, u_maxDd, u_dnew, u_tupi, ix_p0, ix_p1, wSl, woNone, woSome]))
  refine ⟨trivial, b, rfl, f, ?_⟩
  ((try dsimp only); rw [u_seq]; (try simp only [u_asg, u_gN, u_ret, u_retN, u_skip, u_expr, u_ifs, u_c, u_op, u_neg, u_test, u_and, u_or, u_not, u_if, u_nil, u_cons, u_tup, u_lst, u_callP, u_call, u_b, u_chain, u_andV, u_addI, u_subI, u_mulI, u_divI, u_modI, u_powI, u_cmpI, u_eqI, u_eqS, u_eqB, u_abs, u_intI, u_intB, u_newT, u_newF, u_isN, u_notN, wVar, List.set_cons_zero, List.set_cons_succ, List.getElem?_cons_zero, List.getElem?_cons_succ, List.length_cons, List.length_nil, u_lc, u_for, u_r1, u_r2, u_r3, u_num, u_notV, u_yes, u_w0, u_w1, u_dput, u_get2, u_dget, u_prop, u_fld, u_setF, u_make, u_makeS, u_met, u_calO, u_orT, u_tupIt, u_dc, u_maxDd, u_dnew, u_tupi, ix_p0, ix_p1, wSl, woNone, woSome]))
  try simp only [dIsN, Bool.not_true, Bool.false_eq_true, if_false]
  ((try dsimp only); rw [u_seq]; (try simp only [u_asg, u_gN, u_ret, u_retN, u_skip, u_expr, u_ifs, u_c, u_op, u_neg, u_test, u_and, u_or, u_not, u_if, u_nil, u_cons, u_tup, u_lst, u_callP, u_call, u_b, u_chain, u_andV, u_addI, u_subI, u_mulI, u_divI, u_modI, u_powI, u_cmpI, u_eqI, u_eqS, u_eqB, u_abs, u_intI, u_intB, u_newT, u_newF, u_isN, u_notN, wVar, List.set_cons_zero, List.set_cons_succ, List.getElem?_cons_zero, List.getElem?_cons_succ, List.length_cons, List.length_nil, u_lc, u_for, u_r1, u_r2, u_r3, u_num, u_notV, u_yes, u_w0, u_w1, u_dput, u_get2, u_dget, u_prop, u_fld, u_setF, u_make, u_makeS, u_met, u_calO, u_orT, u_tupIt, u_dc, u_maxDd, u_dnew, u_tupi, ix_p0, ix_p1, wSl, woNone, woSome]))
  refine ⟨trivial, b, rfl, f.ok, by omega, ?_⟩
  ((try dsimp only); rw [u_seq]; (try simp only [u_asg, u_gN, u_ret, u_retN, u_skip, u_expr, u_ifs, u_c, u_op, u_neg, u_test, u_and, u_or, u_not, u_if, u_nil, u_cons, u_tup, u_lst, u_callP, u_call, u_b, u_chain, u_andV, u_addI, u_subI, u_mulI, u_divI, u_modI, u_powI, u_cmpI, u_eqI, u_eqS, u_eqB, u_abs, u_intI, u_intB, u_newT, u_newF, u_isN, u_notN, wVar, List.set_cons_zero, List.set_cons_succ, List.getElem?_cons_zero, List.getElem?_cons_succ, List.length_cons, List.length_nil, u_lc, u_for, u_r1, u_r2, u_r3, u_num, u_notV, u_yes, u_w0, u_w1, u_dput, u_get2, u_dget, u_prop, u_fld, u_setF, u_make, u_makeS, u_met, u_calO, u_orT, u_tupIt, u_dc, u_maxDd, u_dnew, u_tupi, ix_p0, ix_p1, wSl, woNone, woSome]))
  rw [if_neg (by rw [decide_eq_false (by omega)]; decide)]
  ((try dsimp only); rw [u_seq]; (try simp only [u_asg, u_gN, u_ret, u_retN, u_skip, u_expr, u_ifs, u_c, u_op, u_neg, u_test, u_and, u_or, u_not, u_if, u_nil, u_cons, u_tup, u_lst, u_callP, u_call, u_b, u_chain, u_andV, u_addI, u_subI, u_mulI, u_divI, u_modI, u_powI, u_cmpI, u_eqI, u_eqS, u_eqB, u_abs, u_intI, u_intB, u_newT, u_newF, u_isN, u_notN, wVar, List.set_cons_zero, List.set_cons_succ, List.getElem?_cons_zero, List.getElem?_cons_succ, List.length_cons, List.length_nil, u_lc, u_for, u_r1, u_r2, u_r3, u_num, u_notV, u_yes, u_w0, u_w1, u_dput, u_get2, u_dget, u_prop, u_fld, u_setF, u_make, u_makeS, u_met, u_calO, u_orT, u_tupIt, u_dc, u_maxDd, u_dnew, u_tupi, ix_p0, ix_p1, wSl, woNone, woSome]))
  refine ⟨trivial, b, rfl, f.ok, by omega, by omega, ?_⟩
  ((try dsimp only); rw [u_seq]; (try simp only [u_asg, u_gN, u_ret, u_retN, u_skip, u_expr, u_ifs, u_c, u_op, u_neg, u_test, u_and, u_or, u_not, u_if, u_nil, u_cons, u_tup, u_lst, u_callP, u_call, u_b, u_chain, u_andV, u_addI, u_subI, u_mulI, u_divI, u_modI, u_powI, u_cmpI, u_eqI, u_eqS, u_eqB, u_abs, u_intI, u_intB, u_newT, u_newF, u_isN, u_notN, wVar, List.set_cons_zero, List.set_cons_succ, List.getElem?_cons_zero, List.getElem?_cons_succ, List.length_cons, List.length_nil, u_lc, u_for, u_r1, u_r2, u_r3, u_num, u_notV, u_yes, u_w0, u_w1, u_dput, u_get2, u_dget, u_prop, u_fld, u_setF, u_make, u_makeS, u_met, u_calO, u_orT, u_tupIt, u_dc, u_maxDd, u_dnew, u_tupi, ix_p0, ix_p1, wSl, woNone, woSome]))
  rw [if_neg (by rw [decide_eq_false (by omega)]; decide)]
  rw [u_orS]
  cases lm with
  | false =>
    refine .inl ?_
    simp only [u_asg, u_gN, u_ret, u_retN, u_skip, u_expr, u_ifs, u_c, u_op, u_neg, u_test, u_and, u_or, u_not, u_if, u_nil, u_cons, u_tup, u_lst, u_callP, u_call, u_b, u_chain, u_andV, u_addI, u_subI, u_mulI, u_divI, u_modI, u_powI, u_cmpI, u_eqI, u_eqS, u_eqB, u_abs, u_intI, u_intB, u_newT, u_newF, u_isN, u_notN, wVar, List.set_cons_zero, List.set_cons_succ, List.getElem?_cons_zero, List.getElem?_cons_succ, List.length_cons, List.length_nil, u_lc, u_for, u_r1, u_r2, u_r3, u_num, u_notV, u_yes, u_w0, u_w1, u_dput, u_get2, u_dget, u_prop, u_fld, u_setF, u_make, u_makeS, u_met, u_calO, u_orT, u_tupIt, u_dc, u_maxDd, u_dnew, u_tupi, ix_p0, ix_p1, wSl, woNone, woSome]
    exact ⟨a, [], rfl, ha, by decide, fin_of q⟩
  | true =>
    refine .inr ?_
    simp only [u_asg, u_gN, u_ret, u_retN, u_skip, u_expr, u_ifs, u_c, u_op, u_neg, u_test, u_and, u_or, u_not, u_if, u_nil, u_cons, u_tup, u_lst, u_callP, u_call, u_b, u_chain, u_andV, u_addI, u_subI, u_mulI, u_divI, u_modI, u_powI, u_cmpI, u_eqI, u_eqS, u_eqB, u_abs, u_intI, u_intB, u_newT, u_newF, u_isN, u_notN, wVar, List.set_cons_zero, List.set_cons_succ, List.getElem?_cons_zero, List.getElem?_cons_succ, List.length_cons, List.length_nil, u_lc, u_for, u_r1, u_r2, u_r3, u_num, u_notV, u_yes, u_w0, u_w1, u_dput, u_get2, u_dget, u_prop, u_fld, u_setF, u_make, u_makeS, u_met, u_calO, u_orT, u_tupIt, u_dc, u_maxDd, u_dnew, u_tupi, ix_p0, ix_p1, wSl, woNone, woSome]
    exact ⟨a, [], rfl, ha, by decide, fin_of q⟩
/-- the making of a program, of what stands in a tuple -/
theorem go_make {z : Ad} {lm : Bool} {b : List Ac} {h : AH} {Q : KD} {X : KX} (f : Fit b) (q : Q (prog z lm b) h) : ∀ a, h a = none → (starS 1 (S_Program___init__ z)) (.ref a :: encs b) (up h a (.ins (clsOf z lm) [])) (fun v h2 => v = .non ∧ ∃ fs, h2 a = some (.ins (clsOf z lm) fs) ∧ Q (.ob (clsOf z lm) fs) (rm h2 a)) X := by
  intro a ha
  have l := len_cnt (b := b)
  have := f.cnt
  refine ⟨by simp, sz_le (by simp [encs_len]; omega), lm, a, b, rfl, up_same, f, rfl, _, up_same, ?_⟩
  rw [up_up, rm_up, rm_none ha]
  exact q
theorem p_Program_of (z : Ad) : ∀ ds h Q X, S_Program_of z ds h Q X → w_Program_of z (endsD Q X) (startD 2 ds) h := by
  rintro ds h Q X ⟨lm, b, rfl, f, q⟩
  show w_Program_of z (endsD Q X) [some (.ref (clsOf z lm)), some (.tup (encs b))] h
  unfold w_Program_of
  ((try dsimp only); rw [u_seq]; (try simp only [u_asg, u_gN, u_ret, u_retN, u_skip, u_expr, u_ifs, u_c, u_op, u_neg, u_test, u_and, u_or, u_not, u_if, u_nil, u_cons, u_tup, u_lst, u_callP, u_call, u_b, u_chain, u_andV, u_addI, u_subI, u_mulI, u_divI, u_modI, u_powI, u_cmpI, u_eqI, u_eqS, u_eqB, u_abs, u_intI, u_intB, u_newT, u_newF, u_isN, u_notN, wVar, List.set_cons_zero, List.set_cons_succ, List.getElem?_cons_zero, List.getElem?_cons_succ, List.length_cons, List.length_nil, u_lc, u_for, u_r1, u_r2, u_r3, u_num, u_notV, u_yes, u_w0, u_w1, u_dput, u_get2, u_dget, u_prop, u_fld, u_setF, u_make, u_makeS, u_met, u_calO, u_orT, u_tupIt, u_dc, u_maxDd, u_dnew, u_tupi, ix_p0, ix_p1, wSl, woNone, woSome]))
  refine ⟨_, _, _, _, rfl, rfl, rfl, ?_⟩
  simp only [Bool.not_true, Bool.false_eq_true, if_false]
  have key := go_make (z := z) (lm := lm) (X := X) f (fin_of q)
  cases lm with
  | false => exact .inl ⟨rfl, _, rfl, key⟩
  | true => exact .inr ⟨rfl, _, rfl, key⟩
theorem p_program_in (z : Ad) : ∀ ds h Q X, S_program_in z ds h Q X → w_program_in z (endsD Q X) (startD 2 ds) h := by
  rintro ds h Q X ⟨lm, b, rfl, f, q⟩
  show w_program_in z (endsD Q X) [some (.str (modeS lm)), some (.tup (encs b))] h
  unfold w_program_in
  try simp only [u_asg, u_gN, u_ret, u_retN, u_skip, u_expr, u_ifs, u_c, u_op, u_neg, u_test, u_and, u_or, u_not, u_if, u_nil, u_cons, u_tup, u_lst, u_callP, u_call, u_b, u_chain, u_andV, u_addI, u_subI, u_mulI, u_divI, u_modI, u_powI, u_cmpI, u_eqI, u_eqS, u_eqB, u_abs, u_intI, u_intB, u_newT, u_newF, u_isN, u_notN, wVar, List.set_cons_zero, List.set_cons_succ, List.getElem?_cons_zero, List.getElem?_cons_succ, List.length_cons, List.length_nil, u_lc, u_for, u_r1, u_r2, u_r3, u_num, u_notV, u_yes, u_w0, u_w1, u_dput, u_get2, u_dget, u_prop, u_fld, u_setF, u_make, u_makeS, u_met, u_calO, u_orT, u_tupIt, u_dc, u_maxDd, u_dnew, u_tupi, ix_p0, ix_p1, wSl, woNone, woSome]
  have key := go_make (z := z) (lm := lm) (X := X) f (fin_of q)
  cases lm with
  | false =>
    rw [if_neg (by decide)]
    exact ⟨_, rfl, key⟩
  | true =>
    rw [if_pos (by decide)]
    exact ⟨_, rfl, key⟩
theorem p_Program_body (z : Ad) : ∀ ds h Q X, S_Program_body z ds h Q X → w_Program_body z (endsD Q X) (startD 1 ds) h := by
  rintro ds h Q X ⟨lm, b, rfl, q⟩
  exact go_held (lm := lm) (b := b) (i := 0) rfl (fin_of q)
theorem p_Program_mode (z : Ad) : ∀ ds h Q X, S_Program_mode z ds h Q X → w_Program_mode z (endsD Q X) (startD 1 ds) h := by
  rintro ds h Q X ⟨lm, b, rfl, q⟩
  show w_Program_mode z (endsD Q X) [some (prog z lm b)] h
  unfold w_Program_mode
  cases lm with
  | false => exact .inl (by rw [u_con, u_var (d := prog z false b) rfl]; exact ⟨_, rfl, rfl, fin_of q⟩)
  | true => exact .inr (by rw [u_con, u_var (d := prog z true b) rfl]; exact ⟨_, rfl, rfl, fin_of q⟩)
theorem p_Program_size (z : Ad) : ∀ ds h Q X, S_Program_size z ds h Q X → w_Program_size z (endsD Q X) (startD 1 ds) h := by
  rintro ds h Q X ⟨lm, b, rfl, ok, d, q⟩
  show w_Program_size z (endsD Q X) [some (prog z lm b)] h
  unfold w_Program_size
  try simp only [u_asg, u_gN, u_ret, u_retN, u_skip, u_expr, u_ifs, u_c, u_op, u_neg, u_test, u_and, u_or, u_not, u_if, u_nil, u_cons, u_tup, u_lst, u_callP, u_call, u_b, u_chain, u_andV, u_addI, u_subI, u_mulI, u_divI, u_modI, u_powI, u_cmpI, u_eqI, u_eqS, u_eqB, u_abs, u_intI, u_intB, u_newT, u_newF, u_isN, u_notN, wVar, List.set_cons_zero, List.set_cons_succ, List.getElem?_cons_zero, List.getElem?_cons_succ, List.length_cons, List.length_nil, u_lc, u_for, u_r1, u_r2, u_r3, u_num, u_notV, u_yes, u_w0, u_w1, u_dput, u_get2, u_dget, u_prop, u_fld, u_setF, u_make, u_makeS, u_met, u_calO, u_orT, u_tupIt, u_dc, u_maxDd, u_dnew, u_tupi, ix_p0, ix_p1, wSl, woNone, woSome]
  exact go_held (lm := lm) (b := b) (i := 0) rfl ⟨trivial, b, rfl, ok, by omega, fin_of q⟩
theorem p_Program_reach (z : Ad) : ∀ ds h Q X, S_Program_reach z ds h Q X → w_Program_reach z (endsD Q X) (startD 1 ds) h := by
  rintro ds h Q X ⟨lm, b, rfl, ok, d, q⟩
  show w_Program_reach z (endsD Q X) [some (prog z lm b)] h
  unfold w_Program_reach
  try simp only [u_asg, u_gN, u_ret, u_retN, u_skip, u_expr, u_ifs, u_c, u_op, u_neg, u_test, u_and, u_or, u_not, u_if, u_nil, u_cons, u_tup, u_lst, u_callP, u_call, u_b, u_chain, u_andV, u_addI, u_subI, u_mulI, u_divI, u_modI, u_powI, u_cmpI, u_eqI, u_eqS, u_eqB, u_abs, u_intI, u_intB, u_newT, u_newF, u_isN, u_notN, wVar, List.set_cons_zero, List.set_cons_succ, List.getElem?_cons_zero, List.getElem?_cons_succ, List.length_cons, List.length_nil, u_lc, u_for, u_r1, u_r2, u_r3, u_num, u_notV, u_yes, u_w0, u_w1, u_dput, u_get2, u_dget, u_prop, u_fld, u_setF, u_make, u_makeS, u_met, u_calO, u_orT, u_tupIt, u_dc, u_maxDd, u_dnew, u_tupi, ix_p0, ix_p1, wSl, woNone, woSome]
  exact go_held (lm := lm) (b := b) (i := 0) rfl ⟨trivial, b, rfl, ok, by omega, by omega, fin_of q⟩
theorem p_Program_unrolled (z : Ad) : ∀ ds h Q X, S_Program_unrolled z ds h Q X → w_Program_unrolled z (endsD Q X) (startD 1 ds) h := by
  rintro ds h Q X ⟨lm, b, rfl, f, q⟩
  show w_Program_unrolled z (endsD Q X) [some (prog z lm b)] h
  unfold w_Program_unrolled
  have := f.dpt
  try simp only [u_asg, u_gN, u_ret, u_retN, u_skip, u_expr, u_ifs, u_c, u_op, u_neg, u_test, u_and, u_or, u_not, u_if, u_nil, u_cons, u_tup, u_lst, u_callP, u_call, u_b, u_chain, u_andV, u_addI, u_subI, u_mulI, u_divI, u_modI, u_powI, u_cmpI, u_eqI, u_eqS, u_eqB, u_abs, u_intI, u_intB, u_newT, u_newF, u_isN, u_notN, wVar, List.set_cons_zero, List.set_cons_succ, List.getElem?_cons_zero, List.getElem?_cons_succ, List.length_cons, List.length_nil, u_lc, u_for, u_r1, u_r2, u_r3, u_num, u_notV, u_yes, u_w0, u_w1, u_dput, u_get2, u_dget, u_prop, u_fld, u_setF, u_make, u_makeS, u_met, u_calO, u_orT, u_tupIt, u_dc, u_maxDd, u_dnew, u_tupi, ix_p0, ix_p1, wSl, woNone, woSome]
  exact go_held (lm := lm) (b := b) (i := 0) rfl ⟨trivial, b, rfl, f.ok, by omega, f.big, fin_of q⟩
mutual
theorem unrA_ok : ∀ a : Ac, okA a = true → okB (unrA a) = true ∧ flaB (unrA a) = true ∧ dptB (unrA a) ≤ dptA a ∧ cntB (unrA a) = sizA a ∧ sizB (unrA a) = sizA a
  | .bare w, h => by rw [unrA]; simp [okB, flaB, flaA, dptB, dptA, cntB, cntA, sizA, sizB, h]
  | .write n, h => by rw [unrA]; simp [okB, flaB, flaA, dptB, dptA, cntB, cntA, sizA, sizB, h]
  | .fork b, h => by
    rw [okA] at h
    obtain ⟨h1, h2, h3, h4, h5⟩ := unrB_ok b h
    rw [unrA]
    refine ⟨?_, ?_, ?_, ?_, ?_⟩
    · rw [okB, okA, h1, okB]; rfl
    · rw [flaB, flaA, h2, flaB]; rfl
    · rw [dptB, dptA, dptB, dptA]; omega
    · rw [cntB, cntA, cntB, sizA]; omega
    · rw [sizB, sizA, sizB, sizA]; omega
  | .rep n b, h => by
    rw [okA, Bool.and_eq_true] at h
    obtain ⟨h1, h2, h3, h4, h5⟩ := unrB_ok b h.2
    rw [unrA, dptA, sizA]
    clear h
    induction n with
    | zero => simp [okB, flaB, dptB, cntB, sizB]
    | succ n ih =>
      obtain ⟨i1, i2, i3, i4, i5⟩ := ih
      rw [List.replicate_succ, List.flatten_cons, okB_app, flaB_app, h1, h2, i1, i2, dptB_app, cntB_app, sizB_app, h4, h5, i4, i5, Nat.add_mul]
      exact ⟨rfl, rfl, by omega, by omega, by omega⟩
theorem unrB_ok : ∀ b : List Ac, okB b = true → okB (unrB b) = true ∧ flaB (unrB b) = true ∧ dptB (unrB b) ≤ dptB b ∧ cntB (unrB b) = sizB b ∧ sizB (unrB b) = sizB b
  | [], _ => by rw [unrB]; simp [okB, flaB, dptB, cntB, sizB]
  | a :: r, h => by
    obtain ⟨ha, hr⟩ := okB_cons h
    obtain ⟨a1, a2, a3, a4, a5⟩ := unrA_ok a ha
    obtain ⟨h1, h2, h3, h4, h5⟩ := unrB_ok r hr
    rw [unrB, okB_app, flaB_app, a1, a2, h1, h2, dptB_app, cntB_app, sizB_app, a4, a5, h4, h5, dptB, sizB]
    exact ⟨rfl, rfl, by omega, rfl, rfl⟩
end
mutual
theorem sizA_big : ∀ a : Ac, sizA a ≤ bigA a
  | .bare w => by rw [sizA, bigA]; exact Nat.le_refl _
  | .write n => by rw [sizA, bigA]; exact Nat.le_refl _
  | .fork b => by rw [sizA, bigA]; have := sizB_big b; omega
  | .rep n b => by rw [sizA, bigA]; exact Nat.mul_le_mul (Nat.le_succ n) (sizB_big b)
theorem sizB_big : ∀ b : List Ac, sizB b ≤ bigB b
  | [] => by rw [sizB, bigB]; exact Nat.le_refl _
  | a :: r => by rw [sizB, bigB]; exact Nat.add_le_add (sizA_big a) (sizB_big r)
end
theorem p_Program_words (z : Ad) : ∀ ds h Q X, S_Program_words z ds h Q X → w_Program_words z (endsD Q X) (startD 1 ds) h := by
  rintro ds h Q X ⟨lm, b, rfl, f, q⟩
  show w_Program_words z (endsD Q X) [some (prog z lm b)] h
  unfold w_Program_words
  have := f.dpt
  have bg := f.big
  have sb := sizB_big b
  obtain ⟨u1, u2, u3, u4, u5⟩ := unrB_ok b f.ok
  try simp only [u_asg, u_gN, u_ret, u_retN, u_skip, u_expr, u_ifs, u_c, u_op, u_neg, u_test, u_and, u_or, u_not, u_if, u_nil, u_cons, u_tup, u_lst, u_callP, u_call, u_b, u_chain, u_andV, u_addI, u_subI, u_mulI, u_divI, u_modI, u_powI, u_cmpI, u_eqI, u_eqS, u_eqB, u_abs, u_intI, u_intB, u_newT, u_newF, u_isN, u_notN, wVar, List.set_cons_zero, List.set_cons_succ, List.getElem?_cons_zero, List.getElem?_cons_succ, List.length_cons, List.length_nil, u_lc, u_for, u_r1, u_r2, u_r3, u_num, u_notV, u_yes, u_w0, u_w1, u_dput, u_get2, u_dget, u_prop, u_fld, u_setF, u_make, u_makeS, u_met, u_calO, u_orT, u_tupIt, u_dc, u_maxDd, u_dnew, u_tupi, ix_p0, ix_p1, wSl, woNone, woSome]
  exact go_held (lm := lm) (b := b) (i := 0) rfl ⟨trivial, b, rfl, f.ok, by omega, f.big, ⟨trivial, unrB b, rfl, u1, by omega, by omega, fin_of q⟩⟩
end PK
namespace PK
open PySem PySem.Spec L2 C8 DL

theorem in_words (w : Str) : ∀ ws : List Str, inD (.str w) (ws.map .str) = decide (w ∈ ws)
  | [] => by rw [List.map_nil]; simp [inD]
  | a :: ws => by
    have ih := in_words w ws
    unfold inD at ih ⊢
    rw [List.map_cons, List.any_cons, ih]
    show ((a == w) || decide (w ∈ ws)) = decide (w ∈ a :: ws)
    by_cases c : w = a
    · subst c; simp
    · simp [c, Ne.symm c]
theorem flat_words (ws : List Str) : (ws.map D.str).all flatD = true := by
  rw [List.all_eq_true]
  intro x hx
  obtain ⟨w, _, rfl⟩ := List.mem_map.mp hx
  rfl
theorem go_in {w : Str} {ws : List Str} {h : AH} {Q : KD} (q : Q (.bl (decide (w ∈ ws))) h) : dIn false (.str w) (.tup (ws.map .str)) h Q :=
  ⟨_, rfl, rfl, flat_words ws, by rw [if_neg (by decide), in_words]; exact q⟩
theorem u_truth {a : WE} {ρ : EnvD} {h : AH} {Q : Bool → AH → Prop} {X : KX} : wTruth a ρ h Q X = a ρ h (fun x h1 => ∃ k, truD h1 x = some k ∧ Q k h1) X := rfl
theorem up_comm {h : AH} {a b : Addr} {x y : AO} (e : a ≠ b) : up (up h a x) b y = up (up h b y) a x := by
  funext c
  unfold up
  by_cases c1 : c = a
  · subst c1; simp [e]
  · simp [c1]
section
variable {z : Ad} {g : AH} {a p q : Addr} {lm : Bool} {sn sn' : List (Nat × Nat)} {nt nt' : List Note} {w w' : Nat}
theorem wh_a : WH z g a p q lm sn nt w a = some (.ins z.Walk (walkF lm p q w)) := up_same
theorem wh_p (A : Apart a p q) : WH z g a p q lm sn nt w p = some (.lst (sn.map seenD)) := by
  unfold WH; rw [up_ne A.ap.symm, up_ne A.pq, up_same]
theorem wh_q (A : Apart a p q) : WH z g a p q lm sn nt w q = some (.lst (nt.map noteD)) := by
  unfold WH; rw [up_ne A.aq.symm, up_same]
theorem wh_put_p (A : Apart a p q) : up (WH z g a p q lm sn nt w) p (.lst (sn'.map seenD)) = WH z g a p q lm sn' nt w := by
  unfold WH; rw [up_comm A.ap, up_comm A.pq.symm, up_up]
theorem wh_put_q (A : Apart a p q) : up (WH z g a p q lm sn nt w) q (.lst (nt'.map noteD)) = WH z g a p q lm sn nt' w := by
  unfold WH; rw [up_comm A.aq, up_up]
theorem wh_put_a : up (WH z g a p q lm sn nt w) a (.ins z.Walk (walkF lm p q w')) = WH z g a p q lm sn nt w' := by
  unfold WH; rw [up_up]
theorem wf_put : putFD "own_written" (.int (w' : Nat)) (walkF lm p q w) = walkF lm p q w' := rfl
end
theorem p_Walk_note (z : Ad) : ∀ ds h Q X, S_Walk_note z ds h Q X → w_Walk_note z (endsD Q X) (startD 7 ds) h := by
  rintro ds h Q X ⟨a, p, r, lm, sn, nt, w, g, i, s, v, rfl, rfl, A, ln, q⟩
  obtain ⟨t, o, e⟩ := s
  show w_Walk_note z (endsD Q X) [some (.ref a), some (.int (i : Nat)), some (stD (t, o, e)), some (.int v), none, none, none] _
  unfold w_Walk_note
  ((try dsimp only); rw [u_seq]; (try simp only [u_asg, u_gN, u_ret, u_retN, u_skip, u_expr, u_ifs, u_c, u_op, u_neg, u_test, u_and, u_or, u_not, u_if, u_nil, u_cons, u_tup, u_lst, u_callP, u_call, u_b, u_chain, u_andV, u_addI, u_subI, u_mulI, u_divI, u_modI, u_powI, u_cmpI, u_eqI, u_eqS, u_eqB, u_abs, u_intI, u_intB, u_newT, u_newF, u_isN, u_notN, wVar, List.set_cons_zero, List.set_cons_succ, List.getElem?_cons_zero, List.getElem?_cons_succ, List.length_cons, List.length_nil, u_lc, u_for, u_r1, u_r2, u_r3, u_num, u_notV, u_yes, u_w0, u_w1, u_dput, u_get2, u_dget, u_prop, u_fld, u_setF, u_make, u_makeS, u_met, u_calO, u_orT, u_tupIt, u_dc, u_maxDd, u_dnew, u_tupi, ix_p0, ix_p1, wSl, woNone, woSome]))
  refine go_t3 ?_
  try simp only [u_asg, u_gN, u_ret, u_retN, u_skip, u_expr, u_ifs, u_c, u_op, u_neg, u_test, u_and, u_or, u_not, u_if, u_nil, u_cons, u_tup, u_lst, u_callP, u_call, u_b, u_chain, u_andV, u_addI, u_subI, u_mulI, u_divI, u_modI, u_powI, u_cmpI, u_eqI, u_eqS, u_eqB, u_abs, u_intI, u_intB, u_newT, u_newF, u_isN, u_notN, wVar, List.set_cons_zero, List.set_cons_succ, List.getElem?_cons_zero, List.getElem?_cons_succ, List.length_cons, List.length_nil, u_lc, u_for, u_r1, u_r2, u_r3, u_num, u_notV, u_yes, u_w0, u_w1, u_dput, u_get2, u_dget, u_prop, u_fld, u_setF, u_make, u_makeS, u_met, u_calO, u_orT, u_tupIt, u_dc, u_maxDd, u_dnew, u_tupi, ix_p0, ix_p1, wSl, woNone, woSome]
  by_cases ct : (t : Int) > 0
  · rw [if_pos (decide_eq_true ct)]
    simp only [wMethT, u_asg, u_gN, u_ret, u_retN, u_skip, u_expr, u_ifs, u_c, u_op, u_neg, u_test, u_and, u_or, u_not, u_if, u_nil, u_cons, u_tup, u_lst, u_callP, u_call, u_b, u_chain, u_andV, u_addI, u_subI, u_mulI, u_divI, u_modI, u_powI, u_cmpI, u_eqI, u_eqS, u_eqB, u_abs, u_intI, u_intB, u_newT, u_newF, u_isN, u_notN, wVar, List.set_cons_zero, List.set_cons_succ, List.getElem?_cons_zero, List.getElem?_cons_succ, List.length_cons, List.length_nil, u_lc, u_for, u_r1, u_r2, u_r3, u_num, u_notV, u_yes, u_w0, u_w1, u_dput, u_get2, u_dget, u_prop, u_fld, u_setF, u_make, u_makeS, u_met, u_calO, u_orT, u_tupIt, u_dc, u_maxDd, u_dnew, u_tupi, ix_p0, ix_p1, wSl, woNone, woSome]
    refine ⟨_, _, by rw [insOf, wh_a], rfl, ⟨_, lst_ref (wh_q A)⟩, by decide, r, _, _, rfl, rfl, wh_q A, sz_le (by rw [List.length_map]; omega), ?_⟩
    rw [show nt.map noteD ++ [D.tup [.int i, .int o, .int v, .bl e]] = (nt ++ note1 i (t, o, e) v).map noteD by
      rw [List.map_append, note1, if_neg (by show ¬ t = 0; omega)]; rfl]
    rw [wh_put_q A]
    exact fin_of q
  · rw [if_neg (by rw [decide_eq_false ct]; decide)]
    rw [note1, if_pos (by show t = 0; omega), List.append_nil] at q
    exact fin_of q
theorem p_Walk_left (z : Ad) : ∀ ds h Q X, S_Walk_left z ds h Q X → w_Walk_left z (endsD Q X) (startD 7 ds) h := by
  rintro ds h Q X ⟨a, p, r, lm, sn, nt, w, g, c, s, rfl, rfl, A, ok, q⟩
  obtain ⟨t, o, e⟩ := s
  show w_Walk_left z (endsD Q X) [some (.ref a), some (enc c), some (stD (t, o, e)), none, none, none, none] _
  unfold w_Walk_left
  ((try dsimp only); rw [u_seq]; (try simp only [u_asg, u_gN, u_ret, u_retN, u_skip, u_expr, u_ifs, u_c, u_op, u_neg, u_test, u_and, u_or, u_not, u_if, u_nil, u_cons, u_tup, u_lst, u_callP, u_call, u_b, u_chain, u_andV, u_addI, u_subI, u_mulI, u_divI, u_modI, u_powI, u_cmpI, u_eqI, u_eqS, u_eqB, u_abs, u_intI, u_intB, u_newT, u_newF, u_isN, u_notN, wVar, List.set_cons_zero, List.set_cons_succ, List.getElem?_cons_zero, List.getElem?_cons_succ, List.length_cons, List.length_nil, u_lc, u_for, u_r1, u_r2, u_r3, u_num, u_notV, u_yes, u_w0, u_w1, u_dput, u_get2, u_dget, u_prop, u_fld, u_setF, u_make, u_makeS, u_met, u_calO, u_orT, u_tupIt, u_dc, u_maxDd, u_dnew, u_tupi, ix_p0, ix_p1, wSl, woNone, woSome]))
  refine go_t3 ?_
  ((try dsimp only); rw [u_seq]; (try simp only [u_asg, u_gN, u_ret, u_retN, u_skip, u_expr, u_ifs, u_c, u_op, u_neg, u_test, u_and, u_or, u_not, u_if, u_nil, u_cons, u_tup, u_lst, u_callP, u_call, u_b, u_chain, u_andV, u_addI, u_subI, u_mulI, u_divI, u_modI, u_powI, u_cmpI, u_eqI, u_eqS, u_eqB, u_abs, u_intI, u_intB, u_newT, u_newF, u_isN, u_notN, wVar, List.set_cons_zero, List.set_cons_succ, List.getElem?_cons_zero, List.getElem?_cons_succ, List.length_cons, List.length_nil, u_lc, u_for, u_r1, u_r2, u_r3, u_num, u_notV, u_yes, u_w0, u_w1, u_dput, u_get2, u_dget, u_prop, u_fld, u_setF, u_make, u_makeS, u_met, u_calO, u_orT, u_tupIt, u_dc, u_maxDd, u_dnew, u_tupi, ix_p0, ix_p1, wSl, woNone, woSome]))
  rw [ix_word]
  ((try dsimp only); rw [u_seq]; (try simp only [u_asg, u_gN, u_ret, u_retN, u_skip, u_expr, u_ifs, u_c, u_op, u_neg, u_test, u_and, u_or, u_not, u_if, u_nil, u_cons, u_tup, u_lst, u_callP, u_call, u_b, u_chain, u_andV, u_addI, u_subI, u_mulI, u_divI, u_modI, u_powI, u_cmpI, u_eqI, u_eqS, u_eqB, u_abs, u_intI, u_intB, u_newT, u_newF, u_isN, u_notN, wVar, List.set_cons_zero, List.set_cons_succ, List.getElem?_cons_zero, List.getElem?_cons_succ, List.length_cons, List.length_nil, u_lc, u_for, u_r1, u_r2, u_r3, u_num, u_notV, u_yes, u_w0, u_w1, u_dput, u_get2, u_dget, u_prop, u_fld, u_setF, u_make, u_makeS, u_met, u_calO, u_orT, u_tupIt, u_dc, u_maxDd, u_dnew, u_tupi, ix_p0, ix_p1, wSl, woNone, woSome]))
  refine ⟨by decide, go_in (ws := ["exit", "quit"]) ?_⟩
  unfold leftS at q
  by_cases c1 : word c = "exit" ∨ word c = "quit"
  · rw [if_pos c1] at q
    rw [decide_eq_true (by simpa using c1)]
    simp only [if_true]
    exact ⟨by decide, fin_of q⟩
  · rw [if_neg c1] at q
    rw [decide_eq_false (by simpa using c1)]
    simp only [Bool.false_eq_true, if_false]
    ((try dsimp only); rw [u_seq]; (try simp only [u_asg, u_gN, u_ret, u_retN, u_skip, u_expr, u_ifs, u_c, u_op, u_neg, u_test, u_and, u_or, u_not, u_if, u_nil, u_cons, u_tup, u_lst, u_callP, u_call, u_b, u_chain, u_andV, u_addI, u_subI, u_mulI, u_divI, u_modI, u_powI, u_cmpI, u_eqI, u_eqS, u_eqB, u_abs, u_intI, u_intB, u_newT, u_newF, u_isN, u_notN, wVar, List.set_cons_zero, List.set_cons_succ, List.getElem?_cons_zero, List.getElem?_cons_succ, List.length_cons, List.length_nil, u_lc, u_for, u_r1, u_r2, u_r3, u_num, u_notV, u_yes, u_w0, u_w1, u_dput, u_get2, u_dget, u_prop, u_fld, u_setF, u_make, u_makeS, u_met, u_calO, u_orT, u_tupIt, u_dc, u_maxDd, u_dnew, u_tupi, ix_p0, ix_p1, wSl, woNone, woSome]))
    refine ⟨by decide, go_in (ws := ["flush", "drop"]) ?_⟩
    have yes : (word c = "flush" ∨ word c = "drop" ∨ (word c = "line" ∧ lm = true)) → Q (stD (t, 0, false)) (WH z g a p r lm sn nt w) := fun y => by rw [if_pos y] at q; exact q
    have no : ¬ (word c = "flush" ∨ word c = "drop" ∨ (word c = "line" ∧ lm = true)) → Q (stD (t, o + byt c, e)) (WH z g a p r lm sn nt w) := fun y => by rw [if_neg y] at q; exact q
    have last : ¬ (word c = "flush" ∨ word c = "drop" ∨ (word c = "line" ∧ lm = true)) → (0 + 1 + 1 + 1 ≤ sizeLine ∧ fin Q (.tup [.int (t : Nat), .int ((o : Nat) + (byt c : Nat)), .bl e]) (WH z g a p r lm sn nt w)) := fun y => by
      have n := no y
      rw [stD] at n
      exact ⟨by decide, fin_of (by rw [show ((o : Nat) : Int) + (byt c : Nat) = ((o + byt c : Nat) : Int) by omega]; exact n)⟩
    by_cases c2 : word c = "flush" ∨ word c = "drop"
    · rw [decide_eq_true (by simpa using c2)]
      simp only [if_true]
      exact ⟨by decide, fin_of (yes (by rcases c2 with h | h; exact .inl h; exact .inr (.inl h)))⟩
    · rw [decide_eq_false (by simpa using c2)]
      simp only [Bool.false_eq_true, if_false]
      by_cases c3 : word c = "line"
      · rw [if_pos (decide_eq_true c3)]
        simp only [u_truth, u_asg, u_gN, u_ret, u_retN, u_skip, u_expr, u_ifs, u_c, u_op, u_neg, u_test, u_and, u_or, u_not, u_if, u_nil, u_cons, u_tup, u_lst, u_callP, u_call, u_b, u_chain, u_andV, u_addI, u_subI, u_mulI, u_divI, u_modI, u_powI, u_cmpI, u_eqI, u_eqS, u_eqB, u_abs, u_intI, u_intB, u_newT, u_newF, u_isN, u_notN, wVar, List.set_cons_zero, List.set_cons_succ, List.getElem?_cons_zero, List.getElem?_cons_succ, List.length_cons, List.length_nil, u_lc, u_for, u_r1, u_r2, u_r3, u_num, u_notV, u_yes, u_w0, u_w1, u_dput, u_get2, u_dget, u_prop, u_fld, u_setF, u_make, u_makeS, u_met, u_calO, u_orT, u_tupIt, u_dc, u_maxDd, u_dnew, u_tupi, ix_p0, ix_p1, wSl, woNone, woSome]
        refine ⟨_, _, by rw [insOf, wh_a], rfl, lm, rfl, ?_⟩
        cases lm with
        | true =>
          simp only [if_true]
          exact ⟨by decide, fin_of (yes (.inr (.inr ⟨c3, rfl⟩)))⟩
        | false =>
          simp only [Bool.false_eq_true, if_false]
          refine ⟨trivial, go_byt ok ?_⟩
          try simp only [u_asg, u_gN, u_ret, u_retN, u_skip, u_expr, u_ifs, u_c, u_op, u_neg, u_test, u_and, u_or, u_not, u_if, u_nil, u_cons, u_tup, u_lst, u_callP, u_call, u_b, u_chain, u_andV, u_addI, u_subI, u_mulI, u_divI, u_modI, u_powI, u_cmpI, u_eqI, u_eqS, u_eqB, u_abs, u_intI, u_intB, u_newT, u_newF, u_isN, u_notN, wVar, List.set_cons_zero, List.set_cons_succ, List.getElem?_cons_zero, List.getElem?_cons_succ, List.length_cons, List.length_nil, u_lc, u_for, u_r1, u_r2, u_r3, u_num, u_notV, u_yes, u_w0, u_w1, u_dput, u_get2, u_dget, u_prop, u_fld, u_setF, u_make, u_makeS, u_met, u_calO, u_orT, u_tupIt, u_dc, u_maxDd, u_dnew, u_tupi, ix_p0, ix_p1, wSl, woNone, woSome]
          exact last (by rintro (h | h | ⟨_, h⟩); exact c2 (.inl h); exact c2 (.inr h); cases h)
      · rw [if_neg (by rw [decide_eq_false c3]; decide)]
        refine ⟨trivial, go_byt ok ?_⟩
        try simp only [u_asg, u_gN, u_ret, u_retN, u_skip, u_expr, u_ifs, u_c, u_op, u_neg, u_test, u_and, u_or, u_not, u_if, u_nil, u_cons, u_tup, u_lst, u_callP, u_call, u_b, u_chain, u_andV, u_addI, u_subI, u_mulI, u_divI, u_modI, u_powI, u_cmpI, u_eqI, u_eqS, u_eqB, u_abs, u_intI, u_intB, u_newT, u_newF, u_isN, u_notN, wVar, List.set_cons_zero, List.set_cons_succ, List.getElem?_cons_zero, List.getElem?_cons_succ, List.length_cons, List.length_nil, u_lc, u_for, u_r1, u_r2, u_r3, u_num, u_notV, u_yes, u_w0, u_w1, u_dput, u_get2, u_dget, u_prop, u_fld, u_setF, u_make, u_makeS, u_met, u_calO, u_orT, u_tupIt, u_dc, u_maxDd, u_dnew, u_tupi, ix_p0, ix_p1, wSl, woNone, woSome]
        exact last (by rintro (h | h | ⟨h, _⟩); exact c2 (.inl h); exact c2 (.inr h); exact c3 h)
end PK
namespace PK
open PySem PySem.Spec L2 C8 DL

mutual
theorem seenA_len (lm : Bool) : ∀ (a : Ac) (s : WSt), flaA a = true → (seenA lm a s).length = sizA a
  | .bare w, s, _ => by rw [seenA, sizA]; rfl
  | .write n, s, _ => by rw [seenA, sizA]; rfl
  | .fork b, s, h => by rw [flaA] at h; rw [seenA, sizA, List.length_cons, seenB_len lm b s h]; omega
  | .rep n b, s, h => by rw [flaA] at h; cases h
theorem seenB_len (lm : Bool) : ∀ (b : List Ac) (s : WSt), flaB b = true → (seenB lm b s).length = sizB b
  | [], s, _ => by rw [seenB, sizB]; rfl
  | a :: r, s, h => by
    obtain ⟨h1, h2⟩ := flaB_cons h
    rw [seenB, sizB, List.length_append, seenA_len lm a s h1, seenB_len lm r _ h2]
end
theorem note1_len {i : Nat} {s : WSt} {v : Int} : (note1 i s v).length ≤ 1 := by
  unfold note1; split <;> simp
mutual
theorem noteA_len (lm : Bool) : ∀ (p : Nat) (a : Ac) (s : WSt), flaA a = true → (noteA lm p a s).length ≤ sizA a
  | p, .bare w, s, _ => by
    rw [noteA, sizA]
    split
    · exact note1_len
    · split
      · exact note1_len
      · simp
  | p, .write n, s, _ => by rw [noteA, sizA]; simp
  | p, .fork b, s, h => by
    rw [flaA] at h
    have := note1_len (i := p) (s := s) (v := s.1)
    have := noteB_len lm (p + 1) b s h
    rw [noteA, sizA, List.length_append]; omega
  | p, .rep n b, s, h => by rw [flaA] at h; cases h
theorem noteB_len (lm : Bool) : ∀ (p : Nat) (b : List Ac) (s : WSt), flaB b = true → (noteB lm p b s).length ≤ sizB b
  | p, [], s, _ => by rw [noteB, sizB]; simp
  | p, a :: r, s, h => by
    obtain ⟨h1, h2⟩ := flaB_cons h
    have := noteA_len lm p a s h1
    have := noteB_len lm (p + sizA a) r (passS lm a s) h2
    rw [noteB, sizB, List.length_append]; omega
end
theorem siz_pos {a : Ac} (h : flaA a = true) : 1 ≤ sizA a := by
  cases a with
  | bare w => rw [sizA]; exact Nat.le_refl _
  | write n => rw [sizA]; exact Nat.le_refl _
  | fork b => rw [sizA]; omega
  | rep n b => rw [flaA] at h; cases h
theorem word_bare {a : Ac} (h : flaA a = true) (o : okA a = true) (h1 : word a ≠ "fork") : (∃ w, a = .bare w) ∨ ∃ n, a = .write n := by
  cases a with
  | bare w => exact .inl ⟨w, rfl⟩
  | write n => exact .inr ⟨n, rfl⟩
  | fork b => exact absurd rfl h1
  | rep n b => rw [flaA] at h; cases h
theorem p_Walk_passed (z : Ad) (n : Nat) : ∀ ds h Q X, S_Walk_passed z (n + 1) ds h Q X → w_Walk_passed z n (endsD Q X) (startD 7 ds) h := by
  rintro ds h Q X ⟨a, p, r, lm, sn, nt, w, g, c, s, rfl, rfl, A, ok, fl, dp, ls, ln, q⟩
  obtain ⟨t, o, e⟩ := s
  have sp := siz_pos fl
  show w_Walk_passed z n (endsD Q X) [some (.ref a), some (enc c), some (stD (t, o, e)), none, none, none, none] _
  unfold w_Walk_passed
  ((try dsimp only); rw [u_seq]; (try simp only [u_asg, u_gN, u_ret, u_retN, u_skip, u_expr, u_ifs, u_c, u_op, u_neg, u_test, u_and, u_or, u_not, u_if, u_nil, u_cons, u_tup, u_lst, u_callP, u_call, u_b, u_chain, u_andV, u_addI, u_subI, u_mulI, u_divI, u_modI, u_powI, u_cmpI, u_eqI, u_eqS, u_eqB, u_abs, u_intI, u_intB, u_newT, u_newF, u_isN, u_notN, wVar, List.set_cons_zero, List.set_cons_succ, List.getElem?_cons_zero, List.getElem?_cons_succ, List.length_cons, List.length_nil, u_lc, u_for, u_r1, u_r2, u_r3, u_num, u_notV, u_yes, u_w0, u_w1, u_dput, u_get2, u_dget, u_prop, u_fld, u_setF, u_make, u_makeS, u_met, u_calO, u_orT, u_tupIt, u_dc, u_maxDd, u_dnew, u_tupi, ix_p0, ix_p1, wSl, woNone, woSome]))
  refine go_t3 ?_
  ((try dsimp only); rw [u_seq]; (try simp only [u_asg, u_gN, u_ret, u_retN, u_skip, u_expr, u_ifs, u_c, u_op, u_neg, u_test, u_and, u_or, u_not, u_if, u_nil, u_cons, u_tup, u_lst, u_callP, u_call, u_b, u_chain, u_andV, u_addI, u_subI, u_mulI, u_divI, u_modI, u_powI, u_cmpI, u_eqI, u_eqS, u_eqB, u_abs, u_intI, u_intB, u_newT, u_newF, u_isN, u_notN, wVar, List.set_cons_zero, List.set_cons_succ, List.getElem?_cons_zero, List.getElem?_cons_succ, List.length_cons, List.length_nil, u_lc, u_for, u_r1, u_r2, u_r3, u_num, u_notV, u_yes, u_w0, u_w1, u_dput, u_get2, u_dget, u_prop, u_fld, u_setF, u_make, u_makeS, u_met, u_calO, u_orT, u_tupIt, u_dc, u_maxDd, u_dnew, u_tupi, ix_p0, ix_p1, wSl, woNone, woSome]))
  refine ⟨_, _, by rw [insOf, wh_a], rfl, len_of (lst_ref (wh_p A)) ?_⟩
  refine seq_go (fun ρ h' => ρ = [some (.ref a), some (enc c), some (stD (t, o, e)), some (.int (t : Nat)), some (.int (o : Nat)), some (.bl e), some (.int (sn.length : Nat))] ∧ h' = WH z g a p r lm (sn ++ [(t, o)]) nt w) (fun K k => ?_) ?_
  · have k := k _ _ ⟨rfl, rfl⟩
    simp only [wMethT, u_asg, u_gN, u_ret, u_retN, u_skip, u_expr, u_ifs, u_c, u_op, u_neg, u_test, u_and, u_or, u_not, u_if, u_nil, u_cons, u_tup, u_lst, u_callP, u_call, u_b, u_chain, u_andV, u_addI, u_subI, u_mulI, u_divI, u_modI, u_powI, u_cmpI, u_eqI, u_eqS, u_eqB, u_abs, u_intI, u_intB, u_newT, u_newF, u_isN, u_notN, wVar, List.set_cons_zero, List.set_cons_succ, List.getElem?_cons_zero, List.getElem?_cons_succ, List.length_cons, List.length_nil, u_lc, u_for, u_r1, u_r2, u_r3, u_num, u_notV, u_yes, u_w0, u_w1, u_dput, u_get2, u_dget, u_prop, u_fld, u_setF, u_make, u_makeS, u_met, u_calO, u_orT, u_tupIt, u_dc, u_maxDd, u_dnew, u_tupi, ix_p0, ix_p1, wSl, woNone, woSome]
    refine ⟨_, _, by rw [insOf, wh_a], rfl, ⟨_, lst_ref (wh_p A)⟩, ?_⟩
    have done : ∀ y, D.tup [.int (t : Nat), y] = seenD (t, o) → (0 + 1 + 1 ≤ sizeLine ∧ dAppend (.ref p) [.tup [.int (t : Nat), y]] (WH z g a p r lm sn nt w) (fun _ h1 => K [some (.ref a), some (enc c), some (stD (t, o, e)), some (.int (t : Nat)), some (.int (o : Nat)), some (.bl e), some (.int ((sn.map seenD).length : Nat))] h1)) := fun y hy => by
      refine ⟨by decide, p, _, _, rfl, rfl, wh_p A, sz_le (by rw [List.length_map]; omega), ?_⟩
      rw [hy, show sn.map seenD ++ [seenD (t, o)] = (sn ++ [(t, o)]).map seenD by rw [List.map_append]; rfl, wh_put_p A, List.length_map]
      exact k
    by_cases ct : (t : Int) > 0
    · rw [if_pos (decide_eq_true ct)]
      exact done _ (by unfold seenD; rw [if_neg (show ¬ (t, o).1 = 0 by show ¬ t = 0; omega)])
    · rw [if_neg (by rw [decide_eq_false ct]; decide)]
      exact done _ (by unfold seenD; rw [if_pos (show (t, o).1 = 0 by show t = 0; omega)])
  rintro _ _ ⟨rfl, rfl⟩
  have bl := byt_le ok
  refine seq_go (fun ρ h' => ρ = [some (.ref a), some (enc c), some (stD (t, o, e)), some (.int (t : Nat)), some (.int (o : Nat)), some (.bl e), some (.int (sn.length : Nat))] ∧ h' = WH z g a p r lm (sn ++ [(t, o)]) nt (w + t * byt c)) (fun K k => ?_) ?_
  · have k := k _ _ ⟨rfl, rfl⟩
    simp only [u_augF, u_asg, u_gN, u_ret, u_retN, u_skip, u_expr, u_ifs, u_c, u_op, u_neg, u_test, u_and, u_or, u_not, u_if, u_nil, u_cons, u_tup, u_lst, u_callP, u_call, u_b, u_chain, u_andV, u_addI, u_subI, u_mulI, u_divI, u_modI, u_powI, u_cmpI, u_eqI, u_eqS, u_eqB, u_abs, u_intI, u_intB, u_newT, u_newF, u_isN, u_notN, wVar, List.set_cons_zero, List.set_cons_succ, List.getElem?_cons_zero, List.getElem?_cons_succ, List.length_cons, List.length_nil, u_lc, u_for, u_r1, u_r2, u_r3, u_num, u_notV, u_yes, u_w0, u_w1, u_dput, u_get2, u_dget, u_prop, u_fld, u_setF, u_make, u_makeS, u_met, u_calO, u_orT, u_tupIt, u_dc, u_maxDd, u_dnew, u_tupi, ix_p0, ix_p1, wSl, woNone, woSome]
    refine ⟨a, _, _, rfl, wh_a, rfl, trivial, go_byt ok ?_⟩
    try simp only [u_asg, u_gN, u_ret, u_retN, u_skip, u_expr, u_ifs, u_c, u_op, u_neg, u_test, u_and, u_or, u_not, u_if, u_nil, u_cons, u_tup, u_lst, u_callP, u_call, u_b, u_chain, u_andV, u_addI, u_subI, u_mulI, u_divI, u_modI, u_powI, u_cmpI, u_eqI, u_eqS, u_eqB, u_abs, u_intI, u_intB, u_newT, u_newF, u_isN, u_notN, wVar, List.set_cons_zero, List.set_cons_succ, List.getElem?_cons_zero, List.getElem?_cons_succ, List.length_cons, List.length_nil, u_lc, u_for, u_r1, u_r2, u_r3, u_num, u_notV, u_yes, u_w0, u_w1, u_dput, u_get2, u_dget, u_prop, u_fld, u_setF, u_make, u_makeS, u_met, u_calO, u_orT, u_tupIt, u_dc, u_maxDd, u_dnew, u_tupi, ix_p0, ix_p1, wSl, woNone, woSome]
    refine ⟨.inr (.inl ⟨by omega, by omega⟩), ?_⟩
    rw [u_addIp]
    refine ⟨_, wh_a, (show 4 < 1000 by decide), ?_⟩
    rw [show ((w : Nat) : Int) + (t : Int) * (byt c : Nat) = ((w + t * byt c : Nat) : Int) by simp [Int.natCast_add], wf_put, wh_put_a]
    exact k
  rintro _ _ ⟨rfl, rfl⟩
  have ln1 : (sn ++ [(t, o)]).length = sn.length + 1 := by simp
  refine seq_go (fun ρ h' => word c ≠ "fork" ∧ word c ≠ "both" ∧ ρ = [some (.ref a), some (enc c), some (stD (t, o, e)), some (.int (t : Nat)), some (.int (o : Nat)), some (.bl e), some (.int (sn.length : Nat))] ∧ h' = WH z g a p r lm (sn ++ seenA lm c (t, o, e)) (nt ++ noteA lm sn.length c (t, o, e)) (w + wrtA lm c (t, o, e))) (fun K k => ?_) ?_
  · simp only [u_match, u_asg, u_gN, u_ret, u_retN, u_skip, u_expr, u_ifs, u_c, u_op, u_neg, u_test, u_and, u_or, u_not, u_if, u_nil, u_cons, u_tup, u_lst, u_callP, u_call, u_b, u_chain, u_andV, u_addI, u_subI, u_mulI, u_divI, u_modI, u_powI, u_cmpI, u_eqI, u_eqS, u_eqB, u_abs, u_intI, u_intB, u_newT, u_newF, u_isN, u_notN, wVar, List.set_cons_zero, List.set_cons_succ, List.getElem?_cons_zero, List.getElem?_cons_succ, List.length_cons, List.length_nil, u_lc, u_for, u_r1, u_r2, u_r3, u_num, u_notV, u_yes, u_w0, u_w1, u_dput, u_get2, u_dget, u_prop, u_fld, u_setF, u_make, u_makeS, u_met, u_calO, u_orT, u_tupIt, u_dc, u_maxDd, u_dnew, u_tupi, ix_p0, ix_p1, wSl, woNone, woSome]
    rw [ix_word]
    refine ⟨_, rfl, ?_⟩
    by_cases c1 : word c = "fork"
    · obtain ⟨b, rfl⟩ := (word_fork ok).mp c1
      rw [okA] at ok
      rw [flaA] at fl
      rw [dptA] at dp
      rw [sizA] at ls ln
      unfold pickM
      rw [if_pos (by rfl)]
      ((try dsimp only); rw [u_seq]; (try simp only [u_asg, u_gN, u_ret, u_retN, u_skip, u_expr, u_ifs, u_c, u_op, u_neg, u_test, u_and, u_or, u_not, u_if, u_nil, u_cons, u_tup, u_lst, u_callP, u_call, u_b, u_chain, u_andV, u_addI, u_subI, u_mulI, u_divI, u_modI, u_powI, u_cmpI, u_eqI, u_eqS, u_eqB, u_abs, u_intI, u_intB, u_newT, u_newF, u_isN, u_notN, wVar, List.set_cons_zero, List.set_cons_succ, List.getElem?_cons_zero, List.getElem?_cons_succ, List.length_cons, List.length_nil, u_lc, u_for, u_r1, u_r2, u_r3, u_num, u_notV, u_yes, u_w0, u_w1, u_dput, u_get2, u_dget, u_prop, u_fld, u_setF, u_make, u_makeS, u_met, u_calO, u_orT, u_tupIt, u_dc, u_maxDd, u_dnew, u_tupi, ix_p0, ix_p1, wSl, woNone, woSome]))
      refine ⟨_, by rw [insOf, wh_a], rfl, a, p, r, lm, _, nt, _, g, sn.length, (t, o, e), t, rfl, rfl, A, by omega, ?_⟩
      have n1 := note1_len (i := sn.length) (s := (t, o, e)) (v := t)
      ((try dsimp only); rw [u_seq]; (try simp only [u_asg, u_gN, u_ret, u_retN, u_skip, u_expr, u_ifs, u_c, u_op, u_neg, u_test, u_and, u_or, u_not, u_if, u_nil, u_cons, u_tup, u_lst, u_callP, u_call, u_b, u_chain, u_andV, u_addI, u_subI, u_mulI, u_divI, u_modI, u_powI, u_cmpI, u_eqI, u_eqS, u_eqB, u_abs, u_intI, u_intB, u_newT, u_newF, u_isN, u_notN, wVar, List.set_cons_zero, List.set_cons_succ, List.getElem?_cons_zero, List.getElem?_cons_succ, List.length_cons, List.length_nil, u_lc, u_for, u_r1, u_r2, u_r3, u_num, u_notV, u_yes, u_w0, u_w1, u_dput, u_get2, u_dget, u_prop, u_fld, u_setF, u_make, u_makeS, u_met, u_calO, u_orT, u_tupIt, u_dc, u_maxDd, u_dnew, u_tupi, ix_p0, ix_p1, wSl, woNone, woSome]))
      refine ⟨_, by rw [insOf, wh_a], rfl, ?_⟩
      rw [ix_fork1]
      refine ⟨a, p, r, lm, _, _, _, g, b, (t, o, e), rfl, rfl, A, ok, fl, by omega, by rw [ln1]; omega, by rw [List.length_append]; omega, ?_⟩
      try simp only [u_asg, u_gN, u_ret, u_retN, u_skip, u_expr, u_ifs, u_c, u_op, u_neg, u_test, u_and, u_or, u_not, u_if, u_nil, u_cons, u_tup, u_lst, u_callP, u_call, u_b, u_chain, u_andV, u_addI, u_subI, u_mulI, u_divI, u_modI, u_powI, u_cmpI, u_eqI, u_eqS, u_eqB, u_abs, u_intI, u_intB, u_newT, u_newF, u_isN, u_notN, wVar, List.set_cons_zero, List.set_cons_succ, List.getElem?_cons_zero, List.getElem?_cons_succ, List.length_cons, List.length_nil, u_lc, u_for, u_r1, u_r2, u_r3, u_num, u_notV, u_yes, u_w0, u_w1, u_dput, u_get2, u_dget, u_prop, u_fld, u_setF, u_make, u_makeS, u_met, u_calO, u_orT, u_tupIt, u_dc, u_maxDd, u_dnew, u_tupi, ix_p0, ix_p1, wSl, woNone, woSome]
      refine fin_of ?_
      have e1 : passS lm (.fork b) (t, o, e) = (t, o, e) := by unfold passS; rw [if_pos c1]
      rw [e1, seenA, noteA, wrtA] at q
      rw [ln1, List.append_assoc, List.append_assoc, byt, Nat.mul_zero, Nat.add_zero]
      exact q
    · have s1 : seenA lm c (t, o, e) = [(t, o)] := by
        rcases word_bare fl ok c1 with ⟨v, rfl⟩ | ⟨v, rfl⟩ <;> rw [seenA]
      have w1 : wrtA lm c (t, o, e) = t * byt c := by
        rcases word_bare fl ok c1 with ⟨v, rfl⟩ | ⟨v, rfl⟩ <;> rw [wrtA]
        rw [byt]
      have n1 : noteA lm sn.length c (t, o, e) = if word c = "both" then note1 sn.length (t, o, e) t else if word c = "drop" ∨ word c = "quit" then note1 sn.length (t, o, e) (-(t : Int)) else [] := by
        rcases word_bare fl ok c1 with ⟨v, rfl⟩ | ⟨v, rfl⟩ <;> rw [noteA]
        · rfl
        · rw [word, if_neg (show ¬ (("write" : Str) = "both") by decide), if_neg (show ¬ (("write" : Str) = "drop" ∨ ("write" : Str) = "quit") by decide)]
      rw [s1, w1, n1] at k q
      by_cases c2 : word c = "both"
      · have p2 : passS lm c (t, o, e) = (2 * t, o, e) := by unfold passS; rw [if_neg c1, if_pos c2]
        rw [p2] at q
        rw [if_pos c2] at q
        unfold pickM
        rw [if_neg (by rw [c2]; decide)]
        unfold pickM
        rw [if_pos (by rw [c2]; rfl)]
        ((try dsimp only); rw [u_seq]; (try simp only [u_asg, u_gN, u_ret, u_retN, u_skip, u_expr, u_ifs, u_c, u_op, u_neg, u_test, u_and, u_or, u_not, u_if, u_nil, u_cons, u_tup, u_lst, u_callP, u_call, u_b, u_chain, u_andV, u_addI, u_subI, u_mulI, u_divI, u_modI, u_powI, u_cmpI, u_eqI, u_eqS, u_eqB, u_abs, u_intI, u_intB, u_newT, u_newF, u_isN, u_notN, wVar, List.set_cons_zero, List.set_cons_succ, List.getElem?_cons_zero, List.getElem?_cons_succ, List.length_cons, List.length_nil, u_lc, u_for, u_r1, u_r2, u_r3, u_num, u_notV, u_yes, u_w0, u_w1, u_dput, u_get2, u_dget, u_prop, u_fld, u_setF, u_make, u_makeS, u_met, u_calO, u_orT, u_tupIt, u_dc, u_maxDd, u_dnew, u_tupi, ix_p0, ix_p1, wSl, woNone, woSome]))
        refine ⟨_, by rw [insOf, wh_a], rfl, a, p, r, lm, _, nt, _, g, sn.length, (t, o, e), t, rfl, rfl, A, by omega, ?_⟩
        try simp only [u_asg, u_gN, u_ret, u_retN, u_skip, u_expr, u_ifs, u_c, u_op, u_neg, u_test, u_and, u_or, u_not, u_if, u_nil, u_cons, u_tup, u_lst, u_callP, u_call, u_b, u_chain, u_andV, u_addI, u_subI, u_mulI, u_divI, u_modI, u_powI, u_cmpI, u_eqI, u_eqS, u_eqB, u_abs, u_intI, u_intB, u_newT, u_newF, u_isN, u_notN, wVar, List.set_cons_zero, List.set_cons_succ, List.getElem?_cons_zero, List.getElem?_cons_succ, List.length_cons, List.length_nil, u_lc, u_for, u_r1, u_r2, u_r3, u_num, u_notV, u_yes, u_w0, u_w1, u_dput, u_get2, u_dget, u_prop, u_fld, u_setF, u_make, u_makeS, u_met, u_calO, u_orT, u_tupIt, u_dc, u_maxDd, u_dnew, u_tupi, ix_p0, ix_p1, wSl, woNone, woSome]
        refine ⟨.inl ⟨by omega, by omega⟩, by decide, fin_of ?_⟩
        rw [stD] at q
        rw [show (2 : Int) * (t : Nat) = ((2 * t : Nat) : Int) by omega]
        exact q
      · rw [if_neg c2] at k
        unfold pickM
        rw [if_neg (by
          unfold takesW
          simp [c1])]
        unfold pickM
        rw [if_neg (by
          unfold takesW
          simp [c2])]
        unfold pickM
        by_cases c3 : word c = "drop" ∨ word c = "quit"
        · rw [if_pos c3] at k
          rw [if_pos (by unfold takesW; simpa using c3)]
          try simp only [u_asg, u_gN, u_ret, u_retN, u_skip, u_expr, u_ifs, u_c, u_op, u_neg, u_test, u_and, u_or, u_not, u_if, u_nil, u_cons, u_tup, u_lst, u_callP, u_call, u_b, u_chain, u_andV, u_addI, u_subI, u_mulI, u_divI, u_modI, u_powI, u_cmpI, u_eqI, u_eqS, u_eqB, u_abs, u_intI, u_intB, u_newT, u_newF, u_isN, u_notN, wVar, List.set_cons_zero, List.set_cons_succ, List.getElem?_cons_zero, List.getElem?_cons_succ, List.length_cons, List.length_nil, u_lc, u_for, u_r1, u_r2, u_r3, u_num, u_notV, u_yes, u_w0, u_w1, u_dput, u_get2, u_dget, u_prop, u_fld, u_setF, u_make, u_makeS, u_met, u_calO, u_orT, u_tupIt, u_dc, u_maxDd, u_dnew, u_tupi, ix_p0, ix_p1, wSl, woNone, woSome]
          refine ⟨_, by rw [insOf, wh_a], rfl, a, p, r, lm, _, nt, _, g, sn.length, (t, o, e), _, rfl, rfl, A, by omega, ?_⟩
          exact k _ _ ⟨c1, c2, rfl, rfl⟩
        · rw [if_neg c3, List.append_nil] at k
          rw [if_neg (by unfold takesW; simpa using c3)]
          exact k _ _ ⟨c1, c2, rfl, rfl⟩
  · rintro _ _ ⟨c1, c2, rfl, rfl⟩
    try simp only [u_asg, u_gN, u_ret, u_retN, u_skip, u_expr, u_ifs, u_c, u_op, u_neg, u_test, u_and, u_or, u_not, u_if, u_nil, u_cons, u_tup, u_lst, u_callP, u_call, u_b, u_chain, u_andV, u_addI, u_subI, u_mulI, u_divI, u_modI, u_powI, u_cmpI, u_eqI, u_eqS, u_eqB, u_abs, u_intI, u_intB, u_newT, u_newF, u_isN, u_notN, wVar, List.set_cons_zero, List.set_cons_succ, List.getElem?_cons_zero, List.getElem?_cons_succ, List.length_cons, List.length_nil, u_lc, u_for, u_r1, u_r2, u_r3, u_num, u_notV, u_yes, u_w0, u_w1, u_dput, u_get2, u_dget, u_prop, u_fld, u_setF, u_make, u_makeS, u_met, u_calO, u_orT, u_tupIt, u_dc, u_maxDd, u_dnew, u_tupi, ix_p0, ix_p1, wSl, woNone, woSome]
    refine ⟨_, by rw [insOf, wh_a], rfl, a, p, r, lm, _, _, _, g, c, (t, o, e), rfl, rfl, A, ok, fin_of ?_⟩
    have e1 : passS lm c (t, o, e) = leftS lm c (t, o, e) := by unfold passS; rw [if_neg c1, if_neg c2]
    rw [e1] at q
    exact q
theorem p_Walk_follow (z : Ad) (n : Nat) : ∀ ds h Q X, S_Walk_follow z (n + 1) ds h Q X → w_Walk_follow z n (endsD Q X) (startD 4 ds) h := by
  rintro ds h Q X ⟨a, p, r, lm, sn, nt, w, g, b, s, rfl, rfl, A, ok, fl, dp, ls, ln, q⟩
  show w_Walk_follow z n (endsD Q X) [some (.ref a), some (.tup (encs b)), some (stD s), none] _
  unfold w_Walk_follow
  ((try dsimp only); rw [u_seq]; (try simp only [u_asg, u_gN, u_ret, u_retN, u_skip, u_expr, u_ifs, u_c, u_op, u_neg, u_test, u_and, u_or, u_not, u_if, u_nil, u_cons, u_tup, u_lst, u_callP, u_call, u_b, u_chain, u_andV, u_addI, u_subI, u_mulI, u_divI, u_modI, u_powI, u_cmpI, u_eqI, u_eqS, u_eqB, u_abs, u_intI, u_intB, u_newT, u_newF, u_isN, u_notN, wVar, List.set_cons_zero, List.set_cons_succ, List.getElem?_cons_zero, List.getElem?_cons_succ, List.length_cons, List.length_nil, u_lc, u_for, u_r1, u_r2, u_r3, u_num, u_notV, u_yes, u_w0, u_w1, u_dput, u_get2, u_dget, u_prop, u_fld, u_setF, u_make, u_makeS, u_met, u_calO, u_orT, u_tupIt, u_dc, u_maxDd, u_dnew, u_tupi, ix_p0, ix_p1, wSl, woNone, woSome]))
  refine loop_rest (fun l ρ h' => ∃ b2 s2 a3 sn2 nt2 w2, l = encs b2 ∧ ρ = [some (.ref a), some (.tup (encs b)), some (stD s2), a3] ∧ h' = WH z g a p r lm sn2 nt2 w2 ∧ okB b2 = true ∧ flaB b2 = true ∧ dptB b2 ≤ dptB b ∧
      sn2.length + sizB b2 ≤ 60000 ∧ nt2.length + sizB b2 ≤ 60000 ∧ folS lm b2 s2 = folS lm b s ∧ sn2 ++ seenB lm b2 s2 = sn ++ seenB lm b s ∧ nt2 ++ noteB lm sn2.length b2 s2 = nt ++ noteB lm sn.length b s ∧ w2 + wrtB lm b2 s2 = w + wrtB lm b s) (fun _ _ _ _ => trivial) ?_ ?_ _ _ _
    ⟨b, s, _, sn, nt, w, rfl, rfl, rfl, ok, fl, Nat.le_refl _, ls, ln, rfl, rfl, rfl, rfl⟩
  · rintro x l _ _ K ⟨b2, s2, a3, sn2, nt2, w2, hl, rfl, rfl, ok2, fl2, dp2, ls2, ln2, e1, e2, e3, e4⟩ k
    obtain ⟨c, b3, rfl, rfl, rfl⟩ := encs_cons hl
    obtain ⟨oc, o3⟩ := okB_cons ok2
    obtain ⟨fc, f3⟩ := flaB_cons fl2
    rw [dptB] at dp2
    rw [sizB] at ls2 ln2
    rw [folS] at e1
    rw [seenB] at e2
    rw [noteB] at e3
    rw [wrtB] at e4
    have l1 := seenA_len lm c s2 fc
    have l2 := noteA_len lm sn2.length c s2 fc
    rw [u_gN]
    dsimp only [List.set_cons_zero, List.set_cons_succ]
    try simp only [u_asg, u_gN, u_ret, u_retN, u_skip, u_expr, u_ifs, u_c, u_op, u_neg, u_test, u_and, u_or, u_not, u_if, u_nil, u_cons, u_tup, u_lst, u_callP, u_call, u_b, u_chain, u_andV, u_addI, u_subI, u_mulI, u_divI, u_modI, u_powI, u_cmpI, u_eqI, u_eqS, u_eqB, u_abs, u_intI, u_intB, u_newT, u_newF, u_isN, u_notN, wVar, List.set_cons_zero, List.set_cons_succ, List.getElem?_cons_zero, List.getElem?_cons_succ, List.length_cons, List.length_nil, u_lc, u_for, u_r1, u_r2, u_r3, u_num, u_notV, u_yes, u_w0, u_w1, u_dput, u_get2, u_dget, u_prop, u_fld, u_setF, u_make, u_makeS, u_met, u_calO, u_orT, u_tupIt, u_dc, u_maxDd, u_dnew, u_tupi, ix_p0, ix_p1, wSl, woNone, woSome]
    refine ⟨_, by rw [insOf, wh_a], rfl, a, p, r, lm, sn2, nt2, w2, g, c, s2, rfl, rfl, A, oc, fc, by omega, by omega, by omega, ?_⟩
    refine k _ _ ⟨b3, passS lm c s2, _, _, _, _, rfl, rfl, rfl, o3, f3, by omega, by rw [List.length_append, l1]; omega, by rw [List.length_append]; omega, e1, by rw [List.append_assoc]; exact e2, ?_, by rw [Nat.add_assoc]; exact e4⟩
    rw [List.length_append, l1, List.append_assoc]
    exact e3
  · rintro _ _ ⟨b2, s2, a3, sn2, nt2, w2, hl, rfl, rfl, ok2, fl2, dp2, ls2, ln2, e1, e2, e3, e4⟩
    obtain rfl := encs_nil hl
    rw [folS] at e1
    rw [seenB, List.append_nil] at e2
    rw [noteB, List.append_nil] at e3
    rw [wrtB, Nat.add_zero] at e4
    subst e1 e2 e3 e4
    try simp only [u_asg, u_gN, u_ret, u_retN, u_skip, u_expr, u_ifs, u_c, u_op, u_neg, u_test, u_and, u_or, u_not, u_if, u_nil, u_cons, u_tup, u_lst, u_callP, u_call, u_b, u_chain, u_andV, u_addI, u_subI, u_mulI, u_divI, u_modI, u_powI, u_cmpI, u_eqI, u_eqS, u_eqB, u_abs, u_intI, u_intB, u_newT, u_newF, u_isN, u_notN, wVar, List.set_cons_zero, List.set_cons_succ, List.getElem?_cons_zero, List.getElem?_cons_succ, List.length_cons, List.length_nil, u_lc, u_for, u_r1, u_r2, u_r3, u_num, u_notV, u_yes, u_w0, u_w1, u_dput, u_get2, u_dget, u_prop, u_fld, u_setF, u_make, u_makeS, u_met, u_calO, u_orT, u_tupIt, u_dc, u_maxDd, u_dnew, u_tupi, ix_p0, ix_p1, wSl, woNone, woSome]
    exact fin_of q
end PK
namespace PK
open PySem PySem.Spec L2 C8 DL

theorem wh_start {z : Ad} {h : AH} {a p q : Addr} {lm : Bool} (A : Apart a p q) {x1 x2 x3 : AO} :
    up (up (up (up (up (up h a x1) p (.lst [])) a x2) q (.lst [])) a x3) a (.ins z.Walk (walkF lm p q 0)) = WH z h a p q lm [] [] 0 := by
  have h1 := A.ap
  have h2 := A.aq
  have h3 := A.pq
  unfold WH
  funext b
  unfold up
  by_cases c1 : b = a
  · simp [c1]
  · by_cases c2 : b = q
    · simp [c2, c1, h2.symm]
    · by_cases c3 : b = p
      · simp [c3, h1.symm, h3]
      · simp [c1, c2, c3]
theorem p_Walk___init__ (z : Ad) : ∀ ds h Q X, S_Walk___init__ z ds h Q X → w_Walk___init__ z (endsD Q X) (startD 2 ds) h := by
  rintro ds h Q X ⟨a, lm, b, rfl, ha, f, q⟩
  show w_Walk___init__ z (endsD Q X) [some (.ref a), some (prog z lm b)] h
  have dp := f.dpt
  have bg := f.big
  have sb := sizB_big b
  obtain ⟨u1, u2, u3, u4, u5⟩ := unrB_ok b f.ok
  unfold w_Walk___init__
  ((try dsimp only); rw [u_seq]; (try simp only [u_asg, u_gN, u_ret, u_retN, u_skip, u_expr, u_ifs, u_c, u_op, u_neg, u_test, u_and, u_or, u_not, u_if, u_nil, u_cons, u_tup, u_lst, u_callP, u_call, u_b, u_chain, u_andV, u_addI, u_subI, u_mulI, u_divI, u_modI, u_powI, u_cmpI, u_eqI, u_eqS, u_eqB, u_abs, u_intI, u_intB, u_newT, u_newF, u_isN, u_notN, wVar, List.set_cons_zero, List.set_cons_succ, List.getElem?_cons_zero, List.getElem?_cons_succ, List.length_cons, List.length_nil, u_lc, u_for, u_r1, u_r2, u_r3, u_num, u_notV, u_yes, u_w0, u_w1, u_dput, u_get2, u_dget, u_prop, u_fld, u_setF, u_make, u_makeS, u_met, u_calO, u_orT, u_tupIt, u_dc, u_maxDd, u_dnew, u_tupi, ix_p0, ix_p1, wSl, woNone, woSome]))
  refine go_prop (lm := lm) (b := b) (i := 1) rfl ⟨lm, b, rfl, ?_⟩
  dsimp only
  rw [u_eqS]
  have el : decide (modeS lm = "line") = lm := by cases lm <;> decide +kernel
  rw [el]
  refine ⟨a, _, rfl, ha, by decide, ?_⟩
  ((try dsimp only); rw [u_seq]; (try simp only [u_asg, u_gN, u_ret, u_retN, u_skip, u_expr, u_ifs, u_c, u_op, u_neg, u_test, u_and, u_or, u_not, u_if, u_nil, u_cons, u_tup, u_lst, u_callP, u_call, u_b, u_chain, u_andV, u_addI, u_subI, u_mulI, u_divI, u_modI, u_powI, u_cmpI, u_eqI, u_eqS, u_eqB, u_abs, u_intI, u_intB, u_newT, u_newF, u_isN, u_notN, wVar, List.set_cons_zero, List.set_cons_succ, List.getElem?_cons_zero, List.getElem?_cons_succ, List.length_cons, List.length_nil, u_lc, u_for, u_r1, u_r2, u_r3, u_num, u_notV, u_yes, u_w0, u_w1, u_dput, u_get2, u_dget, u_prop, u_fld, u_setF, u_make, u_makeS, u_met, u_calO, u_orT, u_tupIt, u_dc, u_maxDd, u_dnew, u_tupi, ix_p0, ix_p1, wSl, woNone, woSome]))
  refine ⟨Nat.zero_le _, fun p hp => ?_⟩
  have pa : p ≠ a := by rintro rfl; rw [up_same] at hp; cases hp
  have hp0 : h p = none := by rw [up_ne pa] at hp; exact hp
  refine ⟨a, _, rfl, by rw [up_ne pa.symm, up_same], ?_, ?_⟩
  · exact (show 1 < 1000 by decide)
  ((try dsimp only); rw [u_seq]; (try simp only [u_asg, u_gN, u_ret, u_retN, u_skip, u_expr, u_ifs, u_c, u_op, u_neg, u_test, u_and, u_or, u_not, u_if, u_nil, u_cons, u_tup, u_lst, u_callP, u_call, u_b, u_chain, u_andV, u_addI, u_subI, u_mulI, u_divI, u_modI, u_powI, u_cmpI, u_eqI, u_eqS, u_eqB, u_abs, u_intI, u_intB, u_newT, u_newF, u_isN, u_notN, wVar, List.set_cons_zero, List.set_cons_succ, List.getElem?_cons_zero, List.getElem?_cons_succ, List.length_cons, List.length_nil, u_lc, u_for, u_r1, u_r2, u_r3, u_num, u_notV, u_yes, u_w0, u_w1, u_dput, u_get2, u_dget, u_prop, u_fld, u_setF, u_make, u_makeS, u_met, u_calO, u_orT, u_tupIt, u_dc, u_maxDd, u_dnew, u_tupi, ix_p0, ix_p1, wSl, woNone, woSome]))
  refine ⟨Nat.zero_le _, fun r hr => ?_⟩
  have ra : r ≠ a := by rintro rfl; rw [up_same] at hr; cases hr
  have hr1 := hr
  rw [up_ne ra] at hr1
  have rp : r ≠ p := by rintro rfl; rw [up_same] at hr1; cases hr1
  rw [up_ne rp, up_ne ra] at hr1
  refine ⟨a, _, rfl, by rw [up_ne ra.symm, up_same], ?_, ?_⟩
  · exact (show 2 < 1000 by decide)
  ((try dsimp only); rw [u_seq]; (try simp only [u_asg, u_gN, u_ret, u_retN, u_skip, u_expr, u_ifs, u_c, u_op, u_neg, u_test, u_and, u_or, u_not, u_if, u_nil, u_cons, u_tup, u_lst, u_callP, u_call, u_b, u_chain, u_andV, u_addI, u_subI, u_mulI, u_divI, u_modI, u_powI, u_cmpI, u_eqI, u_eqS, u_eqB, u_abs, u_intI, u_intB, u_newT, u_newF, u_isN, u_notN, wVar, List.set_cons_zero, List.set_cons_succ, List.getElem?_cons_zero, List.getElem?_cons_succ, List.length_cons, List.length_nil, u_lc, u_for, u_r1, u_r2, u_r3, u_num, u_notV, u_yes, u_w0, u_w1, u_dput, u_get2, u_dget, u_prop, u_fld, u_setF, u_make, u_makeS, u_met, u_calO, u_orT, u_tupIt, u_dc, u_maxDd, u_dnew, u_tupi, ix_p0, ix_p1, wSl, woNone, woSome]))
  refine ⟨a, _, rfl, up_same, (show 3 < 1000 by decide), ?_⟩
  have A : Apart a p r := ⟨pa.symm, ra.symm, rp.symm⟩
  rw [show (putFD ("own_written" : Str) (.int 0) (putFD "noted" (.ref r) (putFD "seen" (.ref p) (putFD "ends_lines" (.bl lm) [])))) = walkF lm p r 0 from rfl, wh_start A]
  refine ⟨_, by rw [insOf, wh_a], rfl, go_prop (lm := lm) (b := b) (i := 1) rfl ⟨lm, b, rfl, f, ?_⟩⟩
  refine ⟨by decide, a, p, r, lm, [], [], 0, h, unrB b, st0, rfl, rfl, A, u1, u2, by omega, by simp; omega, by simp; omega, ?_⟩
  refine ⟨a, _, rfl, wh_a, (show 4 < 1000 by decide), fin_of ?_⟩
  have q := q p r hp0 hr1 rp.symm
  simp only [List.nil_append, List.length_nil, Nat.zero_add]
  unfold WH
  rw [up_up]
  exact q
/-- a walk made -/
def walkD (z : Ad) (lm : Bool) (p q : Addr) (b : List Ac) : D := .ob z.Walk (walkF lm p q (wrtB lm (unrB b) st0) ++ [(("behind" : Str), stD (folS lm (unrB b) st0))])
def walkH (h : AH) (lm : Bool) (p q : Addr) (b : List Ac) : AH := up (up h p (.lst ((seenB lm (unrB b) st0).map seenD))) q (.lst ((noteB lm 0 (unrB b) st0).map noteD))
theorem go_walk {z : Ad} {lm : Bool} {b : List Ac} {ρ : EnvD} {i : Nat} {h : AH} {Q : KD} {X : KX} (e : ρ[i]? = some (some (prog z lm b))) (f : Prg b)
    (k : ∀ p q, h p = none → h q = none → p ≠ q → Q (walkD z lm p q b) (walkH h lm p q b)) : wMake z.Walk (S_Walk___init__ z) (wCons (wVar i) wNil) ρ h Q X := by
  rw [u_make, u_cons, u_var e]
  intro a ha
  refine ⟨a, lm, b, rfl, up_same, f, fun p q hp hq hpq => ⟨rfl, _, up_same, ?_⟩⟩
  have pa : p ≠ a := by rintro rfl; rw [up_same] at hp; cases hp
  have qa : q ≠ a := by rintro rfl; rw [up_same] at hq; cases hq
  rw [up_ne pa] at hp
  rw [up_ne qa] at hq
  rw [rm_up, up_comm pa.symm, up_comm qa.symm, rm_up, rm_none (by rw [up_ne qa.symm, up_ne pa.symm]; exact ha)]
  exact k p q hp hq hpq
theorem walk_sub {h : AH} {lm : Bool} {p q : Addr} {b : List Ac} (hp : h p = none) (hq : h q = none) (hpq : p ≠ q) : Sub h (walkH h lm p q b) :=
  (sub_up hp).trans (sub_up (by rw [up_ne hpq.symm]; exact hq))
theorem walk_p {h : AH} {lm : Bool} {p q : Addr} {b : List Ac} (hpq : p ≠ q) : walkH h lm p q b p = some (.lst ((seenB lm (unrB b) st0).map seenD)) := by
  unfold walkH; rw [up_ne hpq, up_same]
theorem walk_q {h : AH} {lm : Bool} {p q : Addr} {b : List Ac} : walkH h lm p q b q = some (.lst ((noteB lm 0 (unrB b) st0).map noteD)) := up_same
theorem p_visits (z : Ad) : ∀ ds h Q X, S_visits z ds h Q X → w_visits z (endsD Q X) (startD 1 ds) h := by
  rintro ds h Q X ⟨lm, b, rfl, f, q⟩
  show w_visits z (endsD Q X) [some (prog z lm b)] h
  unfold w_visits
  simp only [u_ret, u_b, u_cons, u_nil, u_fld]
  refine go_walk (lm := lm) (b := b) rfl f fun p r hp hr hpr => ⟨_, _, rfl, rfl, _, _, rfl, seq_ref (walk_p hpr), fin_sub (walk_sub hp hr hpr) q⟩
theorem p_written (z : Ad) : ∀ ds h Q X, S_written z ds h Q X → w_written z (endsD Q X) (startD 1 ds) h := by
  rintro ds h Q X ⟨lm, b, rfl, f, q⟩
  show w_written z (endsD Q X) [some (prog z lm b)] h
  unfold w_written
  simp only [u_ret, u_fld]
  refine go_walk (lm := lm) (b := b) rfl f fun p r hp hr hpr => ⟨_, _, rfl, rfl, fin_sub (walk_sub hp hr hpr) q⟩
theorem p_copies (z : Ad) : ∀ ds h Q X, S_copies z ds h Q X → w_copies z (endsD Q X) (startD 1 ds) h := by
  rintro ds h Q X ⟨lm, b, rfl, f, q⟩
  show w_copies z (endsD Q X) [some (prog z lm b)] h
  unfold w_copies
  simp only [u_ret, u_op, u_c, u_fld]
  refine go_walk (lm := lm) (b := b) rfl f fun p r hp hr hpr => ⟨_, _, rfl, rfl, ?_⟩
  rw [stD, u_ixTd at0]
  exact fin_sub (walk_sub hp hr hpr) q
theorem p_end_of_walk (z : Ad) : ∀ ds h Q X, S_end_of_walk z ds h Q X → w_end_of_walk z (endsD Q X) (startD 4 ds) h := by
  rintro ds h Q X ⟨fs, s, rfl, hl, q⟩
  obtain ⟨t, o, e⟩ := s
  show w_end_of_walk z (endsD Q X) [some (.ob z.Walk fs), none, none, none] h
  unfold w_end_of_walk
  ((try dsimp only); rw [u_seq]; (try simp only [u_asg, u_gN, u_ret, u_retN, u_skip, u_expr, u_ifs, u_c, u_op, u_neg, u_test, u_and, u_or, u_not, u_if, u_nil, u_cons, u_tup, u_lst, u_callP, u_call, u_b, u_chain, u_andV, u_addI, u_subI, u_mulI, u_divI, u_modI, u_powI, u_cmpI, u_eqI, u_eqS, u_eqB, u_abs, u_intI, u_intB, u_newT, u_newF, u_isN, u_notN, wVar, List.set_cons_zero, List.set_cons_succ, List.getElem?_cons_zero, List.getElem?_cons_succ, List.length_cons, List.length_nil, u_lc, u_for, u_r1, u_r2, u_r3, u_num, u_notV, u_yes, u_w0, u_w1, u_dput, u_get2, u_dget, u_prop, u_fld, u_setF, u_make, u_makeS, u_met, u_calO, u_orT, u_tupIt, u_dc, u_maxDd, u_dnew, u_tupi, ix_p0, ix_p1, wSl, woNone, woSome]))
  refine ⟨_, _, rfl, hl, go_t3 ?_⟩
  try simp only [u_asg, u_gN, u_ret, u_retN, u_skip, u_expr, u_ifs, u_c, u_op, u_neg, u_test, u_and, u_or, u_not, u_if, u_nil, u_cons, u_tup, u_lst, u_callP, u_call, u_b, u_chain, u_andV, u_addI, u_subI, u_mulI, u_divI, u_modI, u_powI, u_cmpI, u_eqI, u_eqS, u_eqB, u_abs, u_intI, u_intB, u_newT, u_newF, u_isN, u_notN, wVar, List.set_cons_zero, List.set_cons_succ, List.getElem?_cons_zero, List.getElem?_cons_succ, List.length_cons, List.length_nil, u_lc, u_for, u_r1, u_r2, u_r3, u_num, u_notV, u_yes, u_w0, u_w1, u_dput, u_get2, u_dget, u_prop, u_fld, u_setF, u_make, u_makeS, u_met, u_calO, u_orT, u_tupIt, u_dc, u_maxDd, u_dnew, u_tupi, ix_p0, ix_p1, wSl, woNone, woSome]
  unfold endD at q
  by_cases c : (t : Int) > 0
  · rw [if_pos (decide_eq_true c)]
    rw [if_neg (show ¬ t = 0 by omega)] at q
    exact ⟨by decide, fin_of q⟩
  · rw [if_neg (by rw [decide_eq_false c]; decide)]
    rw [if_pos (show t = 0 by omega)] at q
    exact fin_of q
theorem p_end_of (z : Ad) : ∀ ds h Q X, S_end_of z ds h Q X → w_end_of z (endsD Q X) (startD 1 ds) h := by
  rintro ds h Q X ⟨lm, b, rfl, f, q⟩
  show w_end_of z (endsD Q X) [some (prog z lm b)] h
  unfold w_end_of
  simp only [u_ret, u_callP, u_cons, u_nil]
  refine go_walk (lm := lm) (b := b) rfl f fun p r hp hr hpr => ⟨rfl, _, _, rfl, rfl, fin_sub (walk_sub hp hr hpr) q⟩
end PK
namespace PK
open PySem PySem.Spec L2 C8 DL

mutual
theorem wrdA_len : ∀ a : Ac, (wrdA a).length = cntA a
  | .bare w => by rw [wrdA, cntA]; rfl
  | .write n => by rw [wrdA, cntA]; rfl
  | .fork b => by rw [wrdA, cntA, List.length_cons, wrdB_len b]
  | .rep n b => by rw [wrdA, cntA, List.length_cons, wrdB_len b]
theorem wrdB_len : ∀ b : List Ac, (wrdB b).length = cntB b
  | [] => by rw [wrdB, cntB]; rfl
  | a :: r => by rw [wrdB, cntB, List.length_append, wrdA_len a, wrdB_len r]
end
/-- what a row gives, by its point -/
def fPt (ws : List Str) (rows : List (Nat × Nat)) (g : Nat → Nat → Option D) : D → Option D
  | .tup [.int i, .str w] => if w ∈ ws then (match rows[i.toNat]? with
    | some r => g i.toNat r.1
    | none => none) else none
  | _ => none
theorem fPt_at {ws : List Str} {rows : List (Nat × Nat)} {g : Nat → Nat → Option D} {j : Nat} {w : Str} (hj : j < rows.length) : fPt ws rows g (.tup [.int ((j : Nat) : Int), .str w]) = if w ∈ ws then g j rows[j].1 else none := by
  show (if w ∈ ws then (match rows[((j : Nat) : Int).toNat]? with
    | some r => g ((j : Nat) : Int).toNat r.1
    | none => none) else none) = _
  rw [Int.toNat_natCast, List.getElem?_eq_getElem hj]
theorem fPt_eq {ws : List Str} {rows : List (Nat × Nat)} {g : Nat → Nat → Option D} : ∀ (l : List Str) (i : Nat), i + l.length ≤ rows.length →
    List.filterMap (fPt ws rows g) (numF i (l.map .str)) = (ptsF ws i l (rows.drop i)).filterMap fun x => g x.1 x.2
  | [], i, _ => by rw [List.map_nil, numF, ptsF]; rfl
  | w :: l, i, h => by
    rw [List.length_cons] at h
    have hi : i < rows.length := by omega
    rw [List.map_cons, numF, List.drop_eq_getElem_cons hi, ptsF, List.filterMap_cons]
    have ih := fPt_eq (ws := ws) (rows := rows) (g := g) l (i + 1) (by omega)
    rw [fPt_at hi]
    by_cases c : w ∈ ws
    · rw [if_pos c, if_pos c, List.filterMap_cons, ih]
    · rw [if_neg c, if_neg c, ih]
theorem numF_mem : ∀ {l : List Str} {i : Nat} {x : D}, x ∈ numF i (l.map .str) → ∃ j w, x = .tup [.int ((j : Nat) : Int), .str w] ∧ j < i + l.length
  | [], i, x, h => by rw [List.map_nil, numF] at h; cases h
  | w :: l, i, x, h => by
    rw [List.map_cons, numF] at h
    rcases List.mem_cons.mp h with rfl | h
    · exact ⟨i, w, rfl, by rw [List.length_cons]; omega⟩
    · obtain ⟨j, v, e, hj⟩ := numF_mem h
      exact ⟨j, v, e, by rw [List.length_cons]; omega⟩
theorem numF_len : ∀ (l : List D) (i : Nat), (numF i l).length = l.length
  | [], i => rfl
  | x :: l, i => by rw [numF, List.length_cons, numF_len l, List.length_cons]
theorem ix_row {rows : List (Nat × Nat)} {j : Nat} (h : j < rows.length) {g : AH} {Q : KD} : dIx (.tup (rows.map seenD)) (.int ((j : Nat) : Int)) g Q = Q (seenD rows[j]) g := by
  refine u_ixTd ?_
  rw [atI_nat (by rw [List.length_map]; exact h), List.getElem?_map, List.getElem?_eq_getElem h]; rfl
theorem words_rows {lm : Bool} {b : List Ac} (f : Prg b) : (wrdB (unrB b)).length = (seenB lm (unrB b) st0).length ∧ (wrdB (unrB b)).length ≤ 50000 := by
  obtain ⟨u1, u2, u3, u4, u5⟩ := unrB_ok b f.ok
  have := f.big
  have := sizB_big b
  rw [wrdB_len, seenB_len lm _ _ u2, u4, u5]
  exact ⟨rfl, by omega⟩
theorem p_processes (z : Ad) : ∀ ds h Q X, S_processes z ds h Q X → w_processes z (endsD Q X) (startD 4 ds) h := by
  rintro ds h Q X ⟨lm, b, rfl, f, q⟩
  show w_processes z (endsD Q X) [some (prog z lm b), none, none, none] h
  obtain ⟨l1, l2⟩ := words_rows (lm := lm) f
  unfold w_processes
  ((try dsimp only); rw [u_seq]; (try simp only [u_asg, u_gN, u_ret, u_retN, u_skip, u_expr, u_ifs, u_c, u_op, u_neg, u_test, u_and, u_or, u_not, u_if, u_nil, u_cons, u_tup, u_lst, u_callP, u_call, u_b, u_chain, u_andV, u_addI, u_subI, u_mulI, u_divI, u_modI, u_powI, u_cmpI, u_eqI, u_eqS, u_eqB, u_abs, u_intI, u_intB, u_newT, u_newF, u_isN, u_notN, wVar, List.set_cons_zero, List.set_cons_succ, List.getElem?_cons_zero, List.getElem?_cons_succ, List.length_cons, List.length_nil, u_lc, u_for, u_r1, u_r2, u_r3, u_num, u_notV, u_yes, u_w0, u_w1, u_dput, u_get2, u_dget, u_prop, u_fld, u_setF, u_make, u_makeS, u_met, u_calO, u_orT, u_tupIt, u_dc, u_maxDd, u_dnew, u_tupi, ix_p0, ix_p1, wSl, woNone, woSome]))
  refine ⟨trivial, lm, b, rfl, f, ?_⟩
  try simp only [u_asg, u_gN, u_ret, u_retN, u_skip, u_expr, u_ifs, u_c, u_op, u_neg, u_test, u_and, u_or, u_not, u_if, u_nil, u_cons, u_tup, u_lst, u_callP, u_call, u_b, u_chain, u_andV, u_addI, u_subI, u_mulI, u_divI, u_modI, u_powI, u_cmpI, u_eqI, u_eqS, u_eqB, u_abs, u_intI, u_intB, u_newT, u_newF, u_isN, u_notN, wVar, List.set_cons_zero, List.set_cons_succ, List.getElem?_cons_zero, List.getElem?_cons_succ, List.length_cons, List.length_nil, u_lc, u_for, u_r1, u_r2, u_r3, u_num, u_notV, u_yes, u_w0, u_w1, u_dput, u_get2, u_dget, u_prop, u_fld, u_setF, u_make, u_makeS, u_met, u_calO, u_orT, u_tupIt, u_dc, u_maxDd, u_dnew, u_tupi, ix_p0, ix_p1, wSl, woNone, woSome]
  refine go_prop (lm := lm) (b := b) (i := 0) rfl ⟨lm, b, rfl, f, ?_⟩
  dsimp only
  rw [numD_F]
  intro r hr
  refine comp_pure (fPt ["fork", "both"] (seenB lm (unrB b) st0) (fun _ v => some (.int (v : Nat)))) (fun _ => trivial) (by rw [numF_len, List.length_map]; exact sz_le (by omega)) ?_ ?_
  · intro y acc K hy la k
    obtain ⟨j, w, rfl, hj⟩ := numF_mem hy
    have hj2 : j < (seenB lm (unrB b) st0).length := by omega
    refine go_t2 (i := 2) (j := 3) ?_
    try simp only [u_asg, u_gN, u_ret, u_retN, u_skip, u_expr, u_ifs, u_c, u_op, u_neg, u_test, u_and, u_or, u_not, u_if, u_nil, u_cons, u_tup, u_lst, u_callP, u_call, u_b, u_chain, u_andV, u_addI, u_subI, u_mulI, u_divI, u_modI, u_powI, u_cmpI, u_eqI, u_eqS, u_eqB, u_abs, u_intI, u_intB, u_newT, u_newF, u_isN, u_notN, wVar, List.set_cons_zero, List.set_cons_succ, List.getElem?_cons_zero, List.getElem?_cons_succ, List.length_cons, List.length_nil, u_lc, u_for, u_r1, u_r2, u_r3, u_num, u_notV, u_yes, u_w0, u_w1, u_dput, u_get2, u_dget, u_prop, u_fld, u_setF, u_make, u_makeS, u_met, u_calO, u_orT, u_tupIt, u_dc, u_maxDd, u_dnew, u_tupi, ix_p0, ix_p1, wSl, woNone, woSome]
    refine ⟨by decide, go_in (ws := ["fork", "both"]) ?_⟩
    rw [fPt_at hj2] at k
    by_cases c : w ∈ (["fork", "both"] : List Str)
    · rw [if_pos c] at k
      rw [decide_eq_true c]
      simp only [if_true]
      try simp only [u_asg, u_gN, u_ret, u_retN, u_skip, u_expr, u_ifs, u_c, u_op, u_neg, u_test, u_and, u_or, u_not, u_if, u_nil, u_cons, u_tup, u_lst, u_callP, u_call, u_b, u_chain, u_andV, u_addI, u_subI, u_mulI, u_divI, u_modI, u_powI, u_cmpI, u_eqI, u_eqS, u_eqB, u_abs, u_intI, u_intB, u_newT, u_newF, u_isN, u_notN, wVar, List.set_cons_zero, List.set_cons_succ, List.getElem?_cons_zero, List.getElem?_cons_succ, List.length_cons, List.length_nil, u_lc, u_for, u_r1, u_r2, u_r3, u_num, u_notV, u_yes, u_w0, u_w1, u_dput, u_get2, u_dget, u_prop, u_fld, u_setF, u_make, u_makeS, u_met, u_calO, u_orT, u_tupIt, u_dc, u_maxDd, u_dnew, u_tupi, ix_p0, ix_p1, wSl, woNone, woSome]
      rw [ix_row hj2, seenD, u_ixTd at0]
      refine ⟨acc, up_same, la, ?_⟩
      rw [up_up]
      exact k
    · rw [if_neg c] at k
      rw [decide_eq_false c]
      simp only [Bool.false_eq_true, if_false]
      rw [Option.toList_none, List.append_nil] at k
      exact k
  · refine ⟨_, up_same, ?_⟩
    rw [if_neg (by decide), rm_up, rm_none hr, fPt_eq _ _ (by omega), List.drop_zero]
    refine ⟨_, (ptsW ["fork", "both"] (seenB lm (unrB b) st0) (wrdB (unrB b))).map (fun x => (x.2 : Int)), rfl, ?_, ?_⟩
    · rw [ptsW]
      generalize ptsF ["fork", "both"] 0 (wrdB (unrB b)) (seenB lm (unrB b) st0) = l
      show some _ = some _
      congr 1
      induction l with
      | nil => rfl
      | cons x l ih => rw [List.filterMap_cons, List.map_cons, List.map_cons, ← ih]
    · try simp only [u_asg, u_gN, u_ret, u_retN, u_skip, u_expr, u_ifs, u_c, u_op, u_neg, u_test, u_and, u_or, u_not, u_if, u_nil, u_cons, u_tup, u_lst, u_callP, u_call, u_b, u_chain, u_andV, u_addI, u_subI, u_mulI, u_divI, u_modI, u_powI, u_cmpI, u_eqI, u_eqS, u_eqB, u_abs, u_intI, u_intB, u_newT, u_newF, u_isN, u_notN, wVar, List.set_cons_zero, List.set_cons_succ, List.getElem?_cons_zero, List.getElem?_cons_succ, List.length_cons, List.length_nil, u_lc, u_for, u_r1, u_r2, u_r3, u_num, u_notV, u_yes, u_w0, u_w1, u_dput, u_get2, u_dget, u_prop, u_fld, u_setF, u_make, u_makeS, u_met, u_calO, u_orT, u_tupIt, u_dc, u_maxDd, u_dnew, u_tupi, ix_p0, ix_p1, wSl, woNone, woSome]
      refine fin_of ?_
      have e : ∀ l : List (Nat × Nat), (1 : Int) + (l.map (fun x => (x.2 : Int))).sum = ((1 + (l.map (·.2)).sum : Nat) : Int) := fun l => by
        have : (l.map (fun x => (x.2 : Int))).sum = (((l.map (·.2)).sum : Nat) : Int) := by
          induction l with
          | nil => rfl
          | cons x l ih => rw [List.map_cons, List.sum_cons, List.map_cons, List.sum_cons, ih]; omega
        omega
      rw [e]
      exact q
theorem p_losses (z : Ad) : ∀ ds h Q X, S_losses z ds h Q X → w_losses z (endsD Q X) (startD 4 ds) h := by
  rintro ds h Q X ⟨lm, b, rfl, f, q⟩
  show w_losses z (endsD Q X) [some (prog z lm b), none, none, none] h
  obtain ⟨l1, l2⟩ := words_rows (lm := lm) f
  unfold w_losses
  ((try dsimp only); rw [u_seq]; (try simp only [u_asg, u_gN, u_ret, u_retN, u_skip, u_expr, u_ifs, u_c, u_op, u_neg, u_test, u_and, u_or, u_not, u_if, u_nil, u_cons, u_tup, u_lst, u_callP, u_call, u_b, u_chain, u_andV, u_addI, u_subI, u_mulI, u_divI, u_modI, u_powI, u_cmpI, u_eqI, u_eqS, u_eqB, u_abs, u_intI, u_intB, u_newT, u_newF, u_isN, u_notN, wVar, List.set_cons_zero, List.set_cons_succ, List.getElem?_cons_zero, List.getElem?_cons_succ, List.length_cons, List.length_nil, u_lc, u_for, u_r1, u_r2, u_r3, u_num, u_notV, u_yes, u_w0, u_w1, u_dput, u_get2, u_dget, u_prop, u_fld, u_setF, u_make, u_makeS, u_met, u_calO, u_orT, u_tupIt, u_dc, u_maxDd, u_dnew, u_tupi, ix_p0, ix_p1, wSl, woNone, woSome]))
  refine ⟨trivial, lm, b, rfl, f, ?_⟩
  try simp only [u_asg, u_gN, u_ret, u_retN, u_skip, u_expr, u_ifs, u_c, u_op, u_neg, u_test, u_and, u_or, u_not, u_if, u_nil, u_cons, u_tup, u_lst, u_callP, u_call, u_b, u_chain, u_andV, u_addI, u_subI, u_mulI, u_divI, u_modI, u_powI, u_cmpI, u_eqI, u_eqS, u_eqB, u_abs, u_intI, u_intB, u_newT, u_newF, u_isN, u_notN, wVar, List.set_cons_zero, List.set_cons_succ, List.getElem?_cons_zero, List.getElem?_cons_succ, List.length_cons, List.length_nil, u_lc, u_for, u_r1, u_r2, u_r3, u_num, u_notV, u_yes, u_w0, u_w1, u_dput, u_get2, u_dget, u_prop, u_fld, u_setF, u_make, u_makeS, u_met, u_calO, u_orT, u_tupIt, u_dc, u_maxDd, u_dnew, u_tupi, ix_p0, ix_p1, wSl, woNone, woSome]
  refine go_prop (lm := lm) (b := b) (i := 0) rfl ⟨lm, b, rfl, f, ?_⟩
  dsimp only
  rw [numD_F]
  intro r hr
  refine comp_pure (fPt ["drop", "quit"] (seenB lm (unrB b) st0) (fun j v => if 0 < v then some (natD j) else none)) (fun _ => trivial) (by rw [numF_len, List.length_map]; exact sz_le (by omega)) ?_ ?_
  · intro y acc K hy la k
    obtain ⟨j, w, rfl, hj⟩ := numF_mem hy
    have hj2 : j < (seenB lm (unrB b) st0).length := by omega
    refine go_t2 (i := 2) (j := 3) ?_
    try simp only [u_asg, u_gN, u_ret, u_retN, u_skip, u_expr, u_ifs, u_c, u_op, u_neg, u_test, u_and, u_or, u_not, u_if, u_nil, u_cons, u_tup, u_lst, u_callP, u_call, u_b, u_chain, u_andV, u_addI, u_subI, u_mulI, u_divI, u_modI, u_powI, u_cmpI, u_eqI, u_eqS, u_eqB, u_abs, u_intI, u_intB, u_newT, u_newF, u_isN, u_notN, wVar, List.set_cons_zero, List.set_cons_succ, List.getElem?_cons_zero, List.getElem?_cons_succ, List.length_cons, List.length_nil, u_lc, u_for, u_r1, u_r2, u_r3, u_num, u_notV, u_yes, u_w0, u_w1, u_dput, u_get2, u_dget, u_prop, u_fld, u_setF, u_make, u_makeS, u_met, u_calO, u_orT, u_tupIt, u_dc, u_maxDd, u_dnew, u_tupi, ix_p0, ix_p1, wSl, woNone, woSome]
    refine ⟨by decide, go_in (ws := ["drop", "quit"]) ?_⟩
    rw [fPt_at hj2] at k
    by_cases c : w ∈ (["drop", "quit"] : List Str)
    · rw [if_pos c] at k
      rw [decide_eq_true c]
      simp only [if_true]
      rw [ix_row hj2, seenD, u_ixTd at0]
      try simp only [u_asg, u_gN, u_ret, u_retN, u_skip, u_expr, u_ifs, u_c, u_op, u_neg, u_test, u_and, u_or, u_not, u_if, u_nil, u_cons, u_tup, u_lst, u_callP, u_call, u_b, u_chain, u_andV, u_addI, u_subI, u_mulI, u_divI, u_modI, u_powI, u_cmpI, u_eqI, u_eqS, u_eqB, u_abs, u_intI, u_intB, u_newT, u_newF, u_isN, u_notN, wVar, List.set_cons_zero, List.set_cons_succ, List.getElem?_cons_zero, List.getElem?_cons_succ, List.length_cons, List.length_nil, u_lc, u_for, u_r1, u_r2, u_r3, u_num, u_notV, u_yes, u_w0, u_w1, u_dput, u_get2, u_dget, u_prop, u_fld, u_setF, u_make, u_makeS, u_met, u_calO, u_orT, u_tupIt, u_dc, u_maxDd, u_dnew, u_tupi, ix_p0, ix_p1, wSl, woNone, woSome]
      by_cases v : 0 < ((seenB lm (unrB b) st0)[j]).1
      · rw [if_pos v] at k
        rw [if_pos (decide_eq_true (by omega))]
        refine ⟨acc, up_same, la, ?_⟩
        rw [up_up]
        exact k
      · rw [if_neg v, Option.toList_none, List.append_nil] at k
        rw [if_neg (by rw [decide_eq_false (by omega)]; decide)]
        exact k
    · rw [if_neg c, Option.toList_none, List.append_nil] at k
      rw [decide_eq_false c]
      simp only [Bool.false_eq_true, if_false]
      exact k
  · refine ⟨_, up_same, ?_⟩
    rw [if_pos rfl, fPt_eq _ _ (by omega), List.drop_zero]
    refine fin_of ?_
    have e : ∀ l : List (Nat × Nat), (l.filterMap fun x => if 0 < x.2 then some (natD x.1) else none) = (l.filter fun x => decide (0 < x.2)).map fun x => natD x.1 := fun l => by
      induction l with
      | nil => rfl
      | cons x l ih =>
        rw [List.filterMap_cons, List.filter_cons]
        by_cases c : 0 < x.2
        · rw [if_pos c, if_pos (decide_eq_true c), List.map_cons, ih]
        · rw [if_neg c, if_neg (by simpa using c), ih]
    rw [e]
    exact q r hr
end PK
namespace PK
open PySem PySem.Spec L2 C8 DL
/-! ### more for families of laws -/
theorem at_memq {xs : List D} {v : Int} (h0 : 0 ≤ v) (h1 : v < xs.length) : ∃ x ∈ xs, atI xs v = some x := by
  obtain ⟨k, rfl⟩ := Int.eq_ofNat_of_zero_le h0
  have hk : k < xs.length := by omega
  exact ⟨xs[k], List.getElem_mem hk, by rw [atI_nat hk]; exact List.getElem?_eq_getElem hk⟩
theorem bigB_ap : ∀ {b c : List Ac}, bigB (b ++ c) = bigB b + bigB c
  | [], c => by simp [bigB]
  | a :: r, c => by rw [List.cons_append, bigB, bigB, bigB_ap]; omega
theorem okB_tk {b : List Ac} (h : okB b = true) (k : Nat) : okB (b.take k) = true := by
  have e := congrArg okB (List.take_append_drop k b)
  rw [okB_app, h, Bool.and_eq_true] at e
  exact e.1
theorem dptB_tk {b : List Ac} (k : Nat) : dptB (b.take k) ≤ dptB b := by
  have e := congrArg dptB (List.take_append_drop k b)
  rw [dptB_app] at e
  omega
theorem bigB_tk {b : List Ac} (k : Nat) : bigB (b.take k) ≤ bigB b := by
  have e := congrArg bigB (List.take_append_drop k b)
  rw [bigB_ap] at e
  omega
theorem cntB_tk {b : List Ac} (k : Nat) : cntB (b.take k) ≤ cntB b := by
  have e := congrArg cntB (List.take_append_drop k b)
  rw [cntB_app] at e
  omega
theorem cut_lastq {α : Type} (xs : List α) : cutD xs none (some (-1)) = xs.take (xs.length - 1) := by
  unfold cutD
  have e0 : HT.sIx xs.length 0 none = 0 := rfl
  have e1 : HT.sIx xs.length xs.length (some (-1)) = xs.length - 1 := by
    simp [HT.sIx]
    omega
  rw [e0, e1, List.drop_zero, Nat.sub_zero]
theorem encs_tk {b : List Ac} (k : Nat) : (encs b).take k = encs (b.take k) := by rw [encs_map, encs_map, List.map_take]
theorem tk_len {b : List Ac} {k : Nat} (h : k ≤ b.length) : (b.take k).take ((encs (b.take k)).length - 1) = b.take (k - 1) := by
  rw [encs_len, List.length_take, List.take_take]
  congr 1
  omega
/-- the lists of words that are drawn from -/
def Wdl (xs : List D) : Prop := 1 ≤ xs.length ∧ xs.length ≤ 50 ∧ ∀ x ∈ xs, ∃ w : Str, x = .str w ∧ (bare w = true ∨ w = "write" ∨ w = "fork" ∨ w = "repeat")
theorem wdl_of (ws : List Str) (h1 : 1 ≤ ws.length) (h2 : ws.length ≤ 50) (h : ws.all (fun w => bare w || decide (w = "write") || decide (w = "fork") || decide (w = "repeat")) = true) : Wdl (ws.map .str) := by
  refine ⟨by rw [List.length_map]; exact h1, by rw [List.length_map]; exact h2, fun x hx => ?_⟩
  obtain ⟨w, hw, rfl⟩ := List.mem_map.mp hx
  have := List.all_eq_true.mp h w hw
  simp only [Bool.or_eq_true, decide_eq_true_iff] at this
  rcases this with ((h | h) | h) | h
  · exact ⟨w, rfl, .inl h⟩
  · exact ⟨w, rfl, .inr (.inl h)⟩
  · exact ⟨w, rfl, .inr (.inr (.inl h))⟩
  · exact ⟨w, rfl, .inr (.inr (.inr h))⟩
end PK
namespace F1
open PySem PySem.Spec L2 C8 DL PK
abbrev N__law_pen : List Str := ["_law_script"]
abbrev N__law_draw : List Str := ["_law_pen_here", "_law_bound", "_law_digit", "_law_turn", "_law_cell", "_law_great", "_law_mixed"]
abbrev N__law_deeds : List Str := ["_law_pen_here", "_law_deep", "_law_words_here", "_law_most_here", "_law_found", "_law_k", "_law_word", "_law_inner"]
abbrev N__law_words : List Str := ["_law_pen_here", "_law_some"]
abbrev N__law_bulk : List Str := ["_law_act"]
abbrev N__law_size : List Str := ["_law_deeds_here", "_law_total", "_law_act"]
abbrev N__law_far : List Str := ["_law_deeds_here", "_law_here", "_law_most_here", "_law_act", "_law_through", "_law_far_here"]
abbrev N__law_fitting : List Str := ["_law_deeds_here", "_law_points", "_law_reach", "_law_k"]
abbrev N__law_job : List Str := ["_law_pen_here"]
abbrev N__law_flat : List Str := ["_law_deeds_here", "_law_found", "_law_act"]
abbrev N__law_all_words : List Str := ["_law_deeds_here", "_law_found", "_law_act"]
abbrev S__law_pen (z : Ad) : FSpec := S_pen
abbrev S__law_draw (z : Ad) : FSpec := S_draw
/-! bounds, by how deep -/
def cN : Nat → Nat
  | 0 => 2
  | d + 1 => 1 + 3 * cN d
def bN : Nat → Nat
  | 0 => 4
  | d + 1 => 12 * bN d
def aN : Nat → Nat
  | 0 => 4
  | d + 1 => 3 + 3 * aN d
structure Acd (a : Ac) (d : Nat) : Prop where
  ok : okA a = true
  dpt : dptA a ≤ d + 2
  cnt : cntA a ≤ cN d
  big : bigA a ≤ bN d
structure Bod (b : List Ac) (m d : Nat) : Prop where
  ok : okB b = true
  len : b.length ≤ m
  dpt : dptB b ≤ d + 2
  cnt : cntB b ≤ m * cN d
  big : bigB b ≤ m * bN d
def S__law_deeds (z : Ad) (k : Nat) : FSpec := fun ds h Q _ => ∃ (n : Int) (p : Addr) (d : Nat) (xs : List D) (m : Nat), ds = [.ref p, .int d, .lst xs, .int m] ∧ PenAt n h p ∧ n + (1 + m * aN d : Nat) < 800000 ∧ Wdl xs ∧ m ≤ 100 ∧ d ≤ 5 ∧ d < k ∧
  ∀ b o, Bod b m d → PenO (n + (1 + m * aN d : Nat)) o → Q (.tup (encs b)) (up h p o)
def S__law_words (z : Ad) : FSpec := fun ds h Q _ => ∃ (n : Int) (p : Addr), ds = [.ref p] ∧ PenAt n h p ∧ n < 900000 ∧ ∀ xs o, Wdl xs → PenO (n + 1) o → Q (.lst xs) (up h p o)
def S__law_bulk (z : Ad) : FSpec := fun ds h Q _ => ∃ a, ds = [enc a] ∧ okA a = true ∧ Q (.int (byt a : Nat)) h
def S__law_size (z : Ad) (n : Nat) : FSpec := fun ds h Q _ => ∃ b, ds = [.tup (encs b)] ∧ okB b = true ∧ dptB b < n ∧ Q (.int (sizB b : Nat)) h
def S__law_far (z : Ad) (n : Nat) : FSpec := fun ds h Q _ => ∃ b, ds = [.tup (encs b)] ∧ okB b = true ∧ dptB b < n ∧ Q (.tup [.int (bynB b : Nat), .int (rchB b : Nat)]) h
def S__law_fitting (z : Ad) : FSpec := fun ds h Q _ => ∃ (b : List Ac) (p r : Nat), ds = [.tup (encs b), .int p, .int r] ∧ okB b = true ∧ dptB b < 16 ∧ b.length ≤ 100 ∧ ∀ k, sizB (b.take k) ≤ p → rchB (b.take k) ≤ r → Q (.tup (encs (b.take k))) h
/-- a body as a job -/
structure Job (b : List Ac) : Prop where
  bod : Bod b 6 2
  siz : sizB b ≤ 900
  rch : rchB b ≤ 400
def S__law_job (z : Ad) : FSpec := fun ds h Q _ => ∃ (n : Int) (p : Addr), ds = [.ref p] ∧ PenAt n h p ∧ n < 700000 ∧ ∀ b o, Job b → PenO (n + 400) o → Q (.tup (encs b)) (up h p o)
def S__law_flat (z : Ad) (k : Nat) : FSpec := fun ds h Q _ => ∃ b, ds = [.tup (encs b)] ∧ okB b = true ∧ dptB b < k ∧ bigB b ≤ 50000 ∧ Q (.tup (encs (unrB b))) h
def S__law_all_words (z : Ad) (k : Nat) : FSpec := fun ds h Q _ => ∃ b, ds = [.tup (encs b)] ∧ okB b = true ∧ dptB b < k ∧ cntB b ≤ 50000 ∧ Q (.lst ((wrdB b).map .str)) h
end F1
namespace F1
open PySem PySem.Spec L2 C8 DL PK
/-! ### the readings -/
def w__law_pen (z : Ad) : WS := (wRet (wLst true (wCons (wB (dListOf false) (wCons (wSl false (wVar 0) woNone (woSome (wC (.int 63)))) wNil)) (wCons (wC (.int 0)) (wCons (wC (.int 0)) wNil)))))
def w__law_draw (z : Ad) : WS := (wSeq (wIfS (wTest (wOp (dCmpI fun i j => decide (j < i)) (wOp dIx (wVar 0) (wC (.int 2))) (wC (.int 0)))) (wSeq (wAsg (wOp dMod (wOp dIx (wVar 0) (wC (.int 2))) (wVar 1)) (gN 2))
  (wSeq (wAsg (wOp dDiv (wOp dIx (wVar 0) (wC (.int 2))) (wVar 1)) (gSubL (wVar 0) (wC (.int 2))))
  (wRet (wVar 2)))) wSkip)
  (wSeq (wAsg (wOp dIx (wVar 0) (wC (.int 1))) (gN 3))
  (wSeq (wAsg (wOp (dAdd false) (wVar 3) (wC (.int 1))) (gSubL (wVar 0) (wC (.int 1))))
  (wSeq (wAsg (wOp (dAdd false) (wOp (dMul false) (wC (.int 80239)) (wVar 3)) (wC (.int 71))) (gN 4))
  (wSeq (wIfS (wTest (wOp (dEq fun b => !b) (wOp dIx (wVar 0) (wC (.int 0))) (wLst false wNil))) (wAsg (wOp dIx (wOp dIx (wVar 0) (wC (.int 0))) (wOp dMod (wVar 3) (wB dLen (wCons (wOp dIx (wVar 0) (wC (.int 0))) wNil)))) (gN 4)) wSkip)
  (wSeq (wIfS (wAnd (wTest (wOp (dCmpI fun i j => decide (i < j)) (wVar 3) (wB dLen (wCons (wOp dIx (wVar 0) (wC (.int 0))) wNil)))) (wTest (wOp (dCmpI fun i j => decide (j ≤ i)) (wB dAbs (wCons (wVar 4) wNil)) (wOp dPow (wC (.int 10)) (wC (.int 18)))))) (wSeq (wAsg (wOp (dAdd false) (wOp (dMul false) (wC (.int 2)) (wB dAbs (wCons (wVar 4) wNil))) (wB dInt (wCons (wOp (dCmpI fun i j => decide (i < j)) (wVar 4) (wC (.int 0))) wNil))) (gN 5))
  (wSeq (wAsg (wOp dDiv (wVar 5) (wVar 1)) (gSubL (wVar 0) (wC (.int 2))))
  (wRet (wOp dMod (wVar 5) (wVar 1))))) wSkip)
  (wSeq (wAsg (wOp dMod (wOp dPow (wOp (dAdd false) (wOp (dAdd false) (wOp dMod (wVar 4) (wC (.int 2147483587))) (wOp (dMul false) (wC (.int 61027)) (wVar 3))) (wC (.int 29))) (wC (.int 3))) (wC (.int 2147483629))) (gN 6))
  (wSeq (wAsg (wOp dMod (wOp dPow (wOp (dAdd false) (wOp (dMul false) (wVar 6) (wOp (dAdd false) (wOp (dMul false) (wC (.int 2)) (wVar 3)) (wC (.int 9)))) (wC (.int 93239))) (wC (.int 3))) (wC (.int 2147483543))) (gN 6))
  (wRet (wOp dMod (wOp dDiv (wVar 6) (wC (.int 16))) (wVar 1)))))))))))
def w__law_deeds (z : Ad) (n : Nat) : WS := (wSeq (wAsg (wLst true wNil) (gN 4))
  (wSeq (wFor (iRng1 (wCons (wCallP (S__law_draw z) 2 (fun ds _ => ds) (wCons (wVar 0) (wCons (wOp (dAdd false) (wVar 3) (wC (.int 1))) wNil))) wNil)) (gN 5) (wSeq (wAsg (wOp dIx (wVar 2) (wCallP (S__law_draw z) 2 (fun ds _ => ds) (wCons (wVar 0) (wCons (wB dLen (wCons (wVar 2) wNil)) wNil)))) (gN 6))
  (wIfS (wTest (wOp (dEq fun b => b) (wVar 6) (wC (.str "write")))) (wExpr (wMethT isL dAppend (wVar 4) (wCons (wTup (wCons (wVar 6) (wCons (wOp dIx (wLst false (wCons (wC (.int 1)) (wCons (wC (.int 2)) (wCons (wC (.int 3)) (wCons (wC (.int 4)) (wCons (wC (.int 6)) (wCons (wOp (dAdd false) (wC (.int 1)) (wCallP (S__law_draw z) 2 (fun ds _ => ds) (wCons (wVar 0) (wCons (wC (.int 12)) wNil)))) wNil))))))) (wCallP (S__law_draw z) 2 (fun ds _ => ds) (wCons (wVar 0) (wCons (wC (.int 6)) wNil)))) wNil))) wNil))) (wIfS (wTest (wOp (dEq fun b => b) (wVar 6) (wC (.str "fork")))) (wExpr (wMethT isL dAppend (wVar 4) (wCons (wTup (wCons (wVar 6) (wCons (wIf (wTest (wOp (dCmpI fun i j => decide (j < i)) (wVar 1) (wC (.int 0)))) (wCallP (S__law_deeds z n) 4 (fun ds _ => ds) (wCons (wVar 0) (wCons (wOp dSub (wVar 1) (wC (.int 1))) (wCons (wVar 2) (wCons (wC (.int 2)) wNil))))) (wTup wNil)) wNil))) wNil))) (wIfS (wTest (wOp (dEq fun b => b) (wVar 6) (wC (.str "repeat")))) (wSeq (wAsg (wIf (wTest (wOp (dCmpI fun i j => decide (j < i)) (wVar 1) (wC (.int 0)))) (wCallP (S__law_deeds z n) 4 (fun ds _ => ds) (wCons (wVar 0) (wCons (wOp dSub (wVar 1) (wC (.int 1))) (wCons (wVar 2) (wCons (wC (.int 3)) wNil))))) (wTup (wCons (wTup (wCons (wC (.str "line")) wNil)) wNil))) (gN 7))
  (wExpr (wMethT isL dAppend (wVar 4) (wCons (wTup (wCons (wVar 6) (wCons (wOp dIx (wLst false (wCons (wC (.int 2)) (wCons (wC (.int 3)) (wCons (wC (.int 0)) (wCons (wC (.int 1)) wNil))))) (wCallP (S__law_draw z) 2 (fun ds _ => ds) (wCons (wVar 0) (wCons (wC (.int 4)) wNil)))) (wCons (wVar 7) wNil)))) wNil)))) (wExpr (wMethT isL dAppend (wVar 4) (wCons (wTup (wCons (wVar 6) wNil)) wNil))))))))
  (wRet (wB dTupOf (wCons (wVar 4) wNil)))))
def w__law_words (z : Ad) : WS := (wSeq (wAsg (wLst true (wCons (wLst false (wCons (wC (.str "write")) (wCons (wC (.str "write")) (wCons (wC (.str "fork")) (wCons (wC (.str "flush")) (wCons (wC (.str "line")) wNil)))))) (wCons (wLst false (wCons (wC (.str "write")) (wCons (wC (.str "fork")) (wCons (wC (.str "fork")) (wCons (wC (.str "line")) wNil))))) (wCons (wLst false (wCons (wC (.str "write")) (wCons (wC (.str "both")) (wCons (wC (.str "flush")) wNil)))) (wCons (wLst false (wCons (wC (.str "repeat")) (wCons (wC (.str "write")) (wCons (wC (.str "flush")) (wCons (wC (.str "fork")) wNil))))) (wCons (wLst false (wCons (wC (.str "write")) (wCons (wC (.str "drop")) (wCons (wC (.str "fork")) (wCons (wC (.str "quit")) wNil))))) (wCons (wLst false (wCons (wC (.str "write")) (wCons (wC (.str "fork")) (wCons (wC (.str "exit")) (wCons (wC (.str "both")) wNil))))) wNil))))))) (gN 1))
  (wSeq (wExpr (wMethT isL dAppend (wVar 1) (wCons (wLst false (wCons (wC (.str "write")) (wCons (wC (.str "line")) (wCons (wC (.str "flush")) (wCons (wC (.str "drop")) (wCons (wC (.str "fork")) (wCons (wC (.str "both")) (wCons (wC (.str "repeat")) (wCons (wC (.str "exit")) (wCons (wC (.str "quit")) (wCons (wC (.str "write")) (wCons (wC (.str "fork")) wNil)))))))))))) wNil)))
  (wRet (wOp dIx (wVar 1) (wCallP (S__law_draw z) 2 (fun ds _ => ds) (wCons (wVar 0) (wCons (wC (.int 7)) wNil)))))))
def w__law_bulk (z : Ad) : WS := (wRet (wIf (wTest (wOp (dEq fun b => b) (wOp dIx (wVar 0) (wC (.int 0))) (wC (.str "write")))) (wOp dIx (wVar 0) (wC (.int 1))) (wB dInt (wCons (wOp (dEq fun b => b) (wOp dIx (wVar 0) (wC (.int 0))) (wC (.str "line"))) wNil))))
def w__law_size (z : Ad) (n : Nat) : WS := (wSeq (wAsg (wC (.int 0)) (gN 1))
  (wSeq (wFor (iTupD (wVar 0)) (gN 2) (wIfS (wTest (wOp (dEq fun b => b) (wOp dIx (wVar 2) (wC (.int 0))) (wC (.str "repeat")))) (wAsg (wOp (dAdd false) (wVar 1) (wOp (dMul false) (wOp dIx (wVar 2) (wC (.int 1))) (wCallP (S__law_size z n) 1 (fun ds _ => ds) (wCons (wOp dIx (wVar 2) (wC (.int 2))) wNil)))) (gN 1)) (wAsg (wOp (dAdd false) (wOp (dAdd false) (wVar 1) (wC (.int 1))) (wIf (wTest (wOp (dEq fun b => b) (wOp dIx (wVar 2) (wC (.int 0))) (wC (.str "fork")))) (wCallP (S__law_size z n) 1 (fun ds _ => ds) (wCons (wOp dIx (wVar 2) (wC (.int 1))) wNil)) (wC (.int 0)))) (gN 1))))
  (wRet (wVar 1))))
def w__law_far (z : Ad) (n : Nat) : WS := (wSeq (wAsg (wTup (wCons (wC (.int 0)) (wCons (wC (.int 0)) wNil))) (gT 2 (gsCons (gN 1) (gsCons (gN 2) gsNil))))
  (wSeq (wFor (iTupD (wVar 0)) (gN 3) (wIfS (wTest (wOp (dEq fun b => b) (wOp dIx (wVar 3) (wC (.int 0))) (wC (.str "fork")))) (wAsg (wB dMax2 (wCons (wVar 2) (wCons (wOp (dAdd false) (wVar 1) (wOp dIx (wCallP (S__law_far z n) 1 (fun ds _ => ds) (wCons (wOp dIx (wVar 3) (wC (.int 1))) wNil)) (wC (.int 1)))) wNil))) (gN 2)) (wIfS (wTest (wOp (dEq fun b => b) (wOp dIx (wVar 3) (wC (.int 0))) (wC (.str "repeat")))) (wSeq (wAsg (wCallP (S__law_far z n) 1 (fun ds _ => ds) (wCons (wOp dIx (wVar 3) (wC (.int 2))) wNil)) (gT 2 (gsCons (gN 4) (gsCons (gN 5) gsNil))))
  (wSeq (wIfS (wTest (wOp (dCmpI fun i j => decide (j < i)) (wOp dIx (wVar 3) (wC (.int 1))) (wC (.int 0)))) (wAsg (wB dMax2 (wCons (wVar 2) (wCons (wOp (dAdd false) (wOp (dAdd false) (wVar 1) (wOp (dMul false) (wOp dSub (wOp dIx (wVar 3) (wC (.int 1))) (wC (.int 1))) (wVar 4))) (wVar 5)) wNil))) (gN 2)) wSkip)
  (wAsg (wOp (dAdd false) (wVar 1) (wOp (dMul false) (wOp dIx (wVar 3) (wC (.int 1))) (wVar 4))) (gN 1)))) (wAsg (wOp (dAdd false) (wVar 1) (wCallP (S__law_bulk z) 1 (fun ds _ => ds) (wCons (wVar 3) wNil))) (gN 1)))))
  (wRet (wTup (wCons (wVar 1) (wCons (wB dMax2 (wCons (wVar 2) (wCons (wVar 1) wNil))) wNil))))))
def w__law_fitting (z : Ad) : WS := (wSeq (wFor (iRng1 (wCons (wB dLen (wCons (wVar 0) wNil)) wNil)) (gN 3) (wIfS (wOr (wTest (wOp (dCmpI fun i j => decide (j < i)) (wCallP (S__law_size z 16) 1 (fun ds _ => ds) (wCons (wVar 0) wNil)) (wVar 1))) (wTest (wOp (dCmpI fun i j => decide (j < i)) (wOp dIx (wCallP (S__law_far z 16) 1 (fun ds _ => ds) (wCons (wVar 0) wNil)) (wC (.int 1))) (wVar 2)))) (wAsg (wSl false (wVar 0) woNone (woSome (wNeg (wC (.int 1))))) (gN 0)) wSkip))
  (wRet (wVar 0)))
def w__law_job (z : Ad) : WS := (wRet (wCallP (S__law_fitting z) 3 (fun ds _ => ds) (wCons (wCallP (S__law_deeds z 16) 4 (fun ds _ => ds) (wCons (wVar 0) (wCons (wC (.int 2)) (wCons (wCallP (S__law_words z) 1 (fun ds _ => ds) (wCons (wVar 0) wNil)) (wCons (wC (.int 6)) wNil))))) (wCons (wC (.int 900)) (wCons (wC (.int 400)) wNil)))))
def w__law_flat (z : Ad) (n : Nat) : WS := (wSeq (wAsg (wLst true wNil) (gN 1))
  (wSeq (wFor (iTupD (wVar 0)) (gN 2) (wIfS (wTest (wOp (dEq fun b => b) (wOp dIx (wVar 2) (wC (.int 0))) (wC (.str "repeat")))) (wAsg (wOp (dAdd true) (wVar 1) (wOp (dMul false) (wB (dListOf false) (wCons (wCallP (S__law_flat z n) 1 (fun ds _ => ds) (wCons (wOp dIx (wVar 2) (wC (.int 2))) wNil)) wNil)) (wOp dIx (wVar 2) (wC (.int 1))))) (gN 1)) (wExpr (wMethT isL dAppend (wVar 1) (wCons (wIf (wTest (wOp (dEq fun b => b) (wOp dIx (wVar 2) (wC (.int 0))) (wC (.str "fork")))) (wTup (wCons (wC (.str "fork")) (wCons (wCallP (S__law_flat z n) 1 (fun ds _ => ds) (wCons (wOp dIx (wVar 2) (wC (.int 1))) wNil)) wNil))) (wVar 2)) wNil)))))
  (wRet (wB dTupOf (wCons (wVar 1) wNil)))))
def w__law_all_words (z : Ad) (n : Nat) : WS := (wSeq (wAsg (wLst true wNil) (gN 1))
  (wSeq (wFor (iTupD (wVar 0)) (gN 2) (wSeq (wExpr (wMethT isL dAppend (wVar 1) (wCons (wOp dIx (wVar 2) (wC (.int 0))) wNil)))
  (wIfS (wTest (wOp (dIn false) (wOp dIx (wVar 2) (wC (.int 0))) (wTup (wCons (wC (.str "fork")) (wCons (wC (.str "repeat")) wNil))))) (wAsg (wOp (dAdd true) (wVar 1) (wCallP (S__law_all_words z n) 1 (fun ds _ => ds) (wCons (wOp dIx (wVar 2) (wNeg (wC (.int 1)))) wNil))) (gN 1)) wSkip)))
  (wRet (wVar 1))))
end F1
namespace F1
open PySem PySem.Spec L2 C8 DL PK
theorem p__law_pen (z : Ad) : ∀ ds h Q X, S__law_pen z ds h Q X → w__law_pen z (endsD Q X) (startD 1 ds) h := p_pen
theorem len__law_pen (z : Ad) : ∀ ds h Q X, S__law_pen z ds h Q X → ds.length = 1 := len_pen
theorem mo__law_pen (z : Ad) : MoF (S__law_pen z) := mo_pen
theorem p__law_draw (z : Ad) : ∀ ds h Q X, S__law_draw z ds h Q X → w__law_draw z (endsD Q X) (startD 7 ds) h := p_draw2
theorem len__law_draw (z : Ad) : ∀ ds h Q X, S__law_draw z ds h Q X → ds.length = 2 := len_draw
theorem mo__law_draw (z : Ad) : MoF (S__law_draw z) := mo_draw
theorem len__law_deeds (z : Ad) (k : Nat) : ∀ ds h Q X, S__law_deeds z k ds h Q X → ds.length = 4 := fun ds h Q X ⟨n, p, m, d, xs, e, _⟩ => by rw [e]; rfl
theorem mo__law_deeds (z : Ad) (k : Nat) : MoF (S__law_deeds z k) := fun ds h Q Q' X X' hq _ ⟨n, p, m, d, xs, e, e1, e2, e3, e4, e5, e6, q⟩ => ⟨n, p, m, d, xs, e, e1, e2, e3, e4, e5, e6, fun a o h1 h2 => hq _ _ (q a o h1 h2)⟩
theorem no__law_deeds (z : Ad) : ∀ ds h Q X, ¬ S__law_deeds z 0 ds h Q X := fun _ _ _ _ ⟨_, _, _, _, _, _, _, _, _, _, _, l, _⟩ => by omega
theorem len__law_words (z : Ad) : ∀ ds h Q X, S__law_words z ds h Q X → ds.length = 1 := fun ds h Q X ⟨n, p, e, _⟩ => by rw [e]; rfl
theorem mo__law_words (z : Ad) : MoF (S__law_words z) := fun ds h Q Q' X X' hq _ ⟨n, p, e, e1, e2, q⟩ => ⟨n, p, e, e1, e2, fun a o h1 h2 => hq _ _ (q a o h1 h2)⟩
theorem len__law_bulk (z : Ad) : ∀ ds h Q X, S__law_bulk z ds h Q X → ds.length = 1 := fun ds h Q X ⟨a, e, _⟩ => by rw [e]; rfl
theorem mo__law_bulk (z : Ad) : MoF (S__law_bulk z) := fun ds h Q Q' X X' hq _ ⟨a, e, e1, q⟩ => ⟨a, e, e1, hq _ _ q⟩
theorem len__law_size (z : Ad) (k : Nat) : ∀ ds h Q X, S__law_size z k ds h Q X → ds.length = 1 := fun ds h Q X ⟨b, e, _⟩ => by rw [e]; rfl
theorem mo__law_size (z : Ad) (k : Nat) : MoF (S__law_size z k) := fun ds h Q Q' X X' hq _ ⟨b, e, e1, e2, q⟩ => ⟨b, e, e1, e2, hq _ _ q⟩
theorem no__law_size (z : Ad) : ∀ ds h Q X, ¬ S__law_size z 0 ds h Q X := fun _ _ _ _ ⟨_, _, _, l, _⟩ => by omega
theorem len__law_far (z : Ad) (k : Nat) : ∀ ds h Q X, S__law_far z k ds h Q X → ds.length = 1 := fun ds h Q X ⟨b, e, _⟩ => by rw [e]; rfl
theorem mo__law_far (z : Ad) (k : Nat) : MoF (S__law_far z k) := fun ds h Q Q' X X' hq _ ⟨b, e, e1, e2, q⟩ => ⟨b, e, e1, e2, hq _ _ q⟩
theorem no__law_far (z : Ad) : ∀ ds h Q X, ¬ S__law_far z 0 ds h Q X := fun _ _ _ _ ⟨_, _, _, l, _⟩ => by omega
theorem len__law_fitting (z : Ad) : ∀ ds h Q X, S__law_fitting z ds h Q X → ds.length = 3 := fun ds h Q X ⟨b, p, r, e, _⟩ => by rw [e]; rfl
theorem mo__law_fitting (z : Ad) : MoF (S__law_fitting z) := fun ds h Q Q' X X' hq _ ⟨b, p, r, e, e1, e2, e3, q⟩ => ⟨b, p, r, e, e1, e2, e3, fun k h1 h2 => hq _ _ (q k h1 h2)⟩
theorem len__law_job (z : Ad) : ∀ ds h Q X, S__law_job z ds h Q X → ds.length = 1 := fun ds h Q X ⟨n, p, e, _⟩ => by rw [e]; rfl
theorem mo__law_job (z : Ad) : MoF (S__law_job z) := fun ds h Q Q' X X' hq _ ⟨n, p, e, e1, e2, q⟩ => ⟨n, p, e, e1, e2, fun a o h1 h2 => hq _ _ (q a o h1 h2)⟩
theorem len__law_flat (z : Ad) (k : Nat) : ∀ ds h Q X, S__law_flat z k ds h Q X → ds.length = 1 := fun ds h Q X ⟨b, e, _⟩ => by rw [e]; rfl
theorem mo__law_flat (z : Ad) (k : Nat) : MoF (S__law_flat z k) := fun ds h Q Q' X X' hq _ ⟨b, e, e1, e2, e3, q⟩ => ⟨b, e, e1, e2, e3, hq _ _ q⟩
theorem no__law_flat (z : Ad) : ∀ ds h Q X, ¬ S__law_flat z 0 ds h Q X := fun _ _ _ _ ⟨_, _, _, l, _⟩ => by omega
theorem len__law_all_words (z : Ad) (k : Nat) : ∀ ds h Q X, S__law_all_words z k ds h Q X → ds.length = 1 := fun ds h Q X ⟨b, e, _⟩ => by rw [e]; rfl
theorem mo__law_all_words (z : Ad) (k : Nat) : MoF (S__law_all_words z k) := fun ds h Q Q' X X' hq _ ⟨b, e, e1, e2, e3, q⟩ => ⟨b, e, e1, e2, e3, hq _ _ q⟩
theorem no__law_all_words (z : Ad) : ∀ ds h Q X, ¬ S__law_all_words z 0 ds h Q X := fun _ _ _ _ ⟨_, _, _, l, _⟩ => by omega

theorem aN_ge (d : Nat) : 4 ≤ aN d := by
  induction d with
  | zero => rw [aN]; exact Nat.le_refl _
  | succ d ih => rw [aN]; omega
theorem cN_ge (d : Nat) : 2 ≤ cN d := by
  induction d with
  | zero => rw [cN]; exact Nat.le_refl _
  | succ d ih => rw [cN]; omega
theorem bN_ge (d : Nat) : 4 ≤ bN d := by
  induction d with
  | zero => rw [bN]; exact Nat.le_refl _
  | succ d ih => rw [bN]; omega
theorem acd_write {v d : Nat} (h1 : 1 ≤ v) (h2 : v ≤ 30) : Acd (.write v) d := by
  have := cN_ge d
  have := bN_ge d
  refine ⟨?_, ?_, ?_, ?_⟩
  · rw [okA, decide_eq_true h1, decide_eq_true (by omega)]; rfl
  · rw [dptA]; omega
  · rw [cntA]; omega
  · rw [bigA]; omega
theorem acd_bare {w : Str} {d : Nat} (h : bare w = true) : Acd (.bare w) d := by
  have := cN_ge d
  have := bN_ge d
  refine ⟨?_, ?_, ?_, ?_⟩
  · rw [okA]; exact h
  · rw [dptA]; omega
  · rw [cntA]; omega
  · rw [bigA]; omega
theorem acd_fork0 {d : Nat} : Acd (.fork []) d := by
  have := cN_ge d
  have := bN_ge d
  refine ⟨rfl, ?_, ?_, ?_⟩
  · rw [dptA, dptB]; omega
  · rw [cntA, cntB]; omega
  · rw [bigA, bigB]; omega
theorem acd_rep0 {n : Nat} (hn : n ≤ 3) : Acd (.rep n [.bare "line"]) 0 := by
  have hw : bare "line" = true := by decide +kernel
  refine ⟨?_, ?_, ?_, ?_⟩
  · rw [okA, okB, okB, okA, hw, decide_eq_true (by omega)]; rfl
  · rw [dptA, dptB, dptB, dptA]; omega
  · rw [cntA, cntB, cntB, cntA, cN]; omega
  · rw [bigA, bigB, bigB, bigA, bN]; omega
theorem acd_fork {b : List Ac} {m d : Nat} (h : Bod b m d) (hm : m ≤ 3) : Acd (.fork b) (d + 1) := by
  have l1 : m * cN d ≤ 3 * cN d := Nat.mul_le_mul_right _ hm
  have l2 : m * bN d ≤ 3 * bN d := Nat.mul_le_mul_right _ hm
  have := h.dpt
  have := h.cnt
  have := h.big
  have := bN_ge d
  refine ⟨?_, ?_, ?_, ?_⟩
  · rw [okA]; exact h.ok
  · rw [dptA]; omega
  · rw [cntA, cN]; omega
  · rw [bigA, bN]; omega
theorem acd_rep {b : List Ac} {n d : Nat} (h : Bod b 3 d) (hn : n ≤ 3) : Acd (.rep n b) (d + 1) := by
  have := h.dpt
  have := h.cnt
  have hb := h.big
  refine ⟨?_, ?_, ?_, ?_⟩
  · rw [okA, h.ok, decide_eq_true (by omega)]; rfl
  · rw [dptA]; omega
  · rw [cntA, cN]; omega
  · rw [bigA, bN]
    have : (n + 1) * bigB b ≤ 4 * (3 * bN d) := Nat.mul_le_mul (by omega) hb
    omega
theorem bod_nil (d : Nat) : Bod [] 0 d := ⟨rfl, Nat.le_refl _, by rw [dptB]; omega, by rw [cntB]; omega, by rw [bigB]; omega⟩
theorem bod_add {b : List Ac} {a : Ac} {m d : Nat} (h : Bod b m d) (ha : Acd a d) : Bod (b ++ [a]) (m + 1) d := by
  have := h.dpt
  have := h.cnt
  have := h.big
  have := h.len
  have := ha.dpt
  have := ha.cnt
  have := ha.big
  refine ⟨?_, by simp; omega, ?_, ?_, ?_⟩
  · rw [okB_app, h.ok, okB, okB, ha.ok]; rfl
  · rw [dptB_app, dptB, dptB]; omega
  · rw [cntB_app, cntB, cntB, Nat.add_mul]; omega
  · rw [bigB_ap, bigB, bigB, Nat.add_mul]; omega
theorem bod_le {b : List Ac} {m k d : Nat} (h : Bod b m d) (l : m ≤ k) : Bod b k d :=
  ⟨h.ok, Nat.le_trans h.len l, h.dpt, Nat.le_trans h.cnt (Nat.mul_le_mul_right _ l), Nat.le_trans h.big (Nat.mul_le_mul_right _ l)⟩
theorem p__law_deeds (z : Ad) (n : Nat) : ∀ ds h Q X, S__law_deeds z (n + 1) ds h Q X → w__law_deeds z n (endsD Q X) (startD 8 ds) h := by
  rintro ds h Q X ⟨c, p, d, ws, m, rfl, I, hn, hw, hm, hd, hk, q⟩
  show w__law_deeds z n (endsD Q X) [some (.ref p), some (.int (d : Nat)), some (.lst ws), some (.int (m : Nat)), none, none, none, none] h
  have ad := aN_ge d
  replace I := Inv0.start I
  unfold w__law_deeds
  ((try dsimp only); rw [u_seq]; (try simp only [u_asg, u_gN, u_ret, u_retN, u_skip, u_expr, u_ifs, u_c, u_op, u_neg, u_test, u_and, u_or, u_not, u_if, u_nil, u_cons, u_tup, u_lst, u_callP, u_call, u_b, u_chain, u_andV, u_addI, u_subI, u_mulI, u_divI, u_modI, u_powI, u_cmpI, u_eqI, u_eqS, u_eqB, u_abs, u_intI, u_intB, u_newT, u_newF, u_isN, u_notN, wVar, List.set_cons_zero, List.set_cons_succ, List.getElem?_cons_zero, List.getElem?_cons_succ, List.length_cons, List.length_nil, u_lc, u_for, u_r1, u_r2, u_r3, u_num, u_notV, u_yes, u_w0, u_w1, u_dput, u_get2, u_dget, u_prop, u_fld, u_setF, u_make, u_makeS, u_met, u_calO, u_orT, u_tupIt, u_dc, u_maxDd, u_dnew, u_tupi, ix_p0, ix_p1, wSl, woNone, woSome]))
  refine ⟨Nat.zero_le _, fun f hf => ?_⟩
  have f0 := I.fresh hf
  replace I := I.new (o := .lst []) hf
  have hf1 : (up h f (.lst [])) f = some (.lst []) := up_same
  generalize up h f (.lst []) = g0 at I hf1 ⊢
  ((try dsimp only); rw [u_seq]; (try simp only [u_asg, u_gN, u_ret, u_retN, u_skip, u_expr, u_ifs, u_c, u_op, u_neg, u_test, u_and, u_or, u_not, u_if, u_nil, u_cons, u_tup, u_lst, u_callP, u_call, u_b, u_chain, u_andV, u_addI, u_subI, u_mulI, u_divI, u_modI, u_powI, u_cmpI, u_eqI, u_eqS, u_eqB, u_abs, u_intI, u_intB, u_newT, u_newF, u_isN, u_notN, wVar, List.set_cons_zero, List.set_cons_succ, List.getElem?_cons_zero, List.getElem?_cons_succ, List.length_cons, List.length_nil, u_lc, u_for, u_r1, u_r2, u_r3, u_num, u_notV, u_yes, u_w0, u_w1, u_dput, u_get2, u_dget, u_prop, u_fld, u_setF, u_make, u_makeS, u_met, u_calO, u_orT, u_tupIt, u_dc, u_maxDd, u_dnew, u_tupi, ix_p0, ix_p1, wSl, woNone, woSome]))
  refine ⟨trivial, draw_go I (by omega) (div_ok (by omega) (by omega)) fun many o a b I keep => ?_⟩
  rw [← keep f f0.2] at hf1
  generalize up _ p o = g1 at I hf1 ⊢
  try simp only [u_asg, u_gN, u_ret, u_retN, u_skip, u_expr, u_ifs, u_c, u_op, u_neg, u_test, u_and, u_or, u_not, u_if, u_nil, u_cons, u_tup, u_lst, u_callP, u_call, u_b, u_chain, u_andV, u_addI, u_subI, u_mulI, u_divI, u_modI, u_powI, u_cmpI, u_eqI, u_eqS, u_eqB, u_abs, u_intI, u_intB, u_newT, u_newF, u_isN, u_notN, wVar, List.set_cons_zero, List.set_cons_succ, List.getElem?_cons_zero, List.getElem?_cons_succ, List.length_cons, List.length_nil, u_lc, u_for, u_r1, u_r2, u_r3, u_num, u_notV, u_yes, u_w0, u_w1, u_dput, u_get2, u_dget, u_prop, u_fld, u_setF, u_make, u_makeS, u_met, u_calO, u_orT, u_tupIt, u_dc, u_maxDd, u_dnew, u_tupi, ix_p0, ix_p1, wSl, woNone, woSome]
  obtain ⟨mn, rfl⟩ := Int.eq_ofNat_of_zero_le a
  refine ⟨by omega, by omega, ?_⟩
  rw [Int.toNat_natCast]
  have mm : mn * aN d ≤ m * aN d := Nat.mul_le_mul_right _ (by omega)
  refine loop_go (fun i ρ h' => ∃ a5 a6 a7 ys, ρ = [some (.ref p), some (.int (d : Nat)), some (.lst ws), some (.int (m : Nat)), some (.ref f), a5, a6, a7] ∧ Inv0 h p (c + (1 + i * aN d : Nat)) h' ∧ h' f = some (.lst (encs ys)) ∧ Bod ys i d)
    ⟨_, _, _, [], rfl, by simpa using I, hf1, bod_nil d⟩ (fun _ _ _ _ => trivial) ?_ ?_
  · rintro i x _ g K hi ⟨a5, a6, a7, ys, rfl, I, hf1, hy⟩ k
    obtain ⟨rfl, li⟩ := intsD_get hi
    have i1 : i * aN d + aN d ≤ mn * aN d := by rw [← Nat.succ_mul]; exact Nat.mul_le_mul_right _ (by omega)
    have i2 : (i + 1) * aN d = i * aN d + aN d := Nat.succ_mul _ _
    rw [i2] at k
    generalize i * aN d = ii at I i1 k
    have l100 := hy.len
    have done : ∀ (z : Ac) (g : AH) (e : Nat) (a5 a6 a7 : Option D), Inv0 h p (c + (1 + ii + e : Nat)) g → e ≤ aN d → Acd z d → K [some (.ref p), some (.int (d : Nat)), some (.lst ws), some (.int (m : Nat)), some (.ref f), a5, a6, a7] (up g f (.lst (encs ys ++ [enc z]))) := fun z g e a5 a6 a7 I he az =>
      k _ _ ⟨_, _, _, ys ++ [z], rfl, (I.mono (by omega)).put f0.1, by rw [encs_app, encs, encs]; exact up_same, bod_add hy az⟩
    clear k
    rw [u_gN]
    dsimp only [List.set_cons_zero, List.set_cons_succ]
    ((try dsimp only); rw [u_seq]; (try simp only [u_asg, u_gN, u_ret, u_retN, u_skip, u_expr, u_ifs, u_c, u_op, u_neg, u_test, u_and, u_or, u_not, u_if, u_nil, u_cons, u_tup, u_lst, u_callP, u_call, u_b, u_chain, u_andV, u_addI, u_subI, u_mulI, u_divI, u_modI, u_powI, u_cmpI, u_eqI, u_eqS, u_eqB, u_abs, u_intI, u_intB, u_newT, u_newF, u_isN, u_notN, wVar, List.set_cons_zero, List.set_cons_succ, List.getElem?_cons_zero, List.getElem?_cons_succ, List.length_cons, List.length_nil, u_lc, u_for, u_r1, u_r2, u_r3, u_num, u_notV, u_yes, u_w0, u_w1, u_dput, u_get2, u_dget, u_prop, u_fld, u_setF, u_make, u_makeS, u_met, u_calO, u_orT, u_tupIt, u_dc, u_maxDd, u_dnew, u_tupi, ix_p0, ix_p1, wSl, woNone, woSome]))
    refine len_of rfl ?_
    refine ⟨trivial, draw_go I (by omega) (div_ok (by have := hw.1; omega) (by have := hw.2.1; omega)) fun v o a' b' I keep => ?_⟩
    rw [← keep f f0.2] at hf1
    generalize up _ p o = g1 at I hf1 ⊢
    obtain ⟨x, hx, ex⟩ := at_memq a' b'
    obtain ⟨w, rfl, iw⟩ := hw.2.2 x hx
    rw [u_ixLd ex]
    try simp only [u_asg, u_gN, u_ret, u_retN, u_skip, u_expr, u_ifs, u_c, u_op, u_neg, u_test, u_and, u_or, u_not, u_if, u_nil, u_cons, u_tup, u_lst, u_callP, u_call, u_b, u_chain, u_andV, u_addI, u_subI, u_mulI, u_divI, u_modI, u_powI, u_cmpI, u_eqI, u_eqS, u_eqB, u_abs, u_intI, u_intB, u_newT, u_newF, u_isN, u_notN, wVar, List.set_cons_zero, List.set_cons_succ, List.getElem?_cons_zero, List.getElem?_cons_succ, List.length_cons, List.length_nil, u_lc, u_for, u_r1, u_r2, u_r3, u_num, u_notV, u_yes, u_w0, u_w1, u_dput, u_get2, u_dget, u_prop, u_fld, u_setF, u_make, u_makeS, u_met, u_calO, u_orT, u_tupIt, u_dc, u_maxDd, u_dnew, u_tupi, ix_p0, ix_p1, wSl, woNone, woSome]
    have lf : (encs ys).length + 1 ≤ sizeLine := sz_le (by rw [encs_len]; omega)
    by_cases c1 : w = "write"
    · subst c1
      rw [if_pos (decide_eq_true rfl)]
      simp only [wMethT, u_asg, u_gN, u_ret, u_retN, u_skip, u_expr, u_ifs, u_c, u_op, u_neg, u_test, u_and, u_or, u_not, u_if, u_nil, u_cons, u_tup, u_lst, u_callP, u_call, u_b, u_chain, u_andV, u_addI, u_subI, u_mulI, u_divI, u_modI, u_powI, u_cmpI, u_eqI, u_eqS, u_eqB, u_abs, u_intI, u_intB, u_newT, u_newF, u_isN, u_notN, wVar, List.set_cons_zero, List.set_cons_succ, List.getElem?_cons_zero, List.getElem?_cons_succ, List.length_cons, List.length_nil, u_lc, u_for, u_r1, u_r2, u_r3, u_num, u_notV, u_yes, u_w0, u_w1, u_dput, u_get2, u_dget, u_prop, u_fld, u_setF, u_make, u_makeS, u_met, u_calO, u_orT, u_tupIt, u_dc, u_maxDd, u_dnew, u_tupi, ix_p0, ix_p1, wSl, woNone, woSome]
      refine ⟨⟨_, lst_ref hf1⟩, ?_⟩
      refine ⟨trivial, draw_go I (by omega) (div_ok (by decide) (by decide)) fun v1 o a1 b1 I keep => ?_⟩
      rw [← keep f f0.2] at hf1
      generalize up _ p o = g1 at I hf1 ⊢
      try simp only [u_asg, u_gN, u_ret, u_retN, u_skip, u_expr, u_ifs, u_c, u_op, u_neg, u_test, u_and, u_or, u_not, u_if, u_nil, u_cons, u_tup, u_lst, u_callP, u_call, u_b, u_chain, u_andV, u_addI, u_subI, u_mulI, u_divI, u_modI, u_powI, u_cmpI, u_eqI, u_eqS, u_eqB, u_abs, u_intI, u_intB, u_newT, u_newF, u_isN, u_notN, wVar, List.set_cons_zero, List.set_cons_succ, List.getElem?_cons_zero, List.getElem?_cons_succ, List.length_cons, List.length_nil, u_lc, u_for, u_r1, u_r2, u_r3, u_num, u_notV, u_yes, u_w0, u_w1, u_dput, u_get2, u_dget, u_prop, u_fld, u_setF, u_make, u_makeS, u_met, u_calO, u_orT, u_tupIt, u_dc, u_maxDd, u_dnew, u_tupi, ix_p0, ix_p1, wSl, woNone, woSome]
      refine ⟨by decide, trivial, draw_go I (by omega) (div_ok (by decide) (by decide)) fun v2 o a2 b2 I keep => ?_⟩
      rw [← keep f f0.2] at hf1
      generalize up _ p o = g1 at I hf1 ⊢
      refine at_some (es := [1, 2, 3, 4, 6, 1 + v1]) a2 (by simpa using b2) fun u hu => ?_
      have hu : 1 ≤ u ∧ u ≤ 12 := by
        have : u = 1 ∨ u = 2 ∨ u = 3 ∨ u = 4 ∨ u = 6 ∨ u = 1 + v1 := by simpa using hu
        omega
      obtain ⟨uu, rfl⟩ := Int.eq_ofNat_of_zero_le (show 0 ≤ u by omega)
      refine ⟨by decide, f, encs ys, _, rfl, rfl, hf1, lf, ?_⟩
      have := done (.write uu) g1 3 (some (.int (0 + (i : Nat)))) (some (.str "write")) a7 (I.mono (by omega)) (by omega) (acd_write (by omega) (by omega))
      rw [enc] at this
      exact this
    · rw [if_neg (by rw [decide_eq_false c1]; decide)]
      try simp only [u_asg, u_gN, u_ret, u_retN, u_skip, u_expr, u_ifs, u_c, u_op, u_neg, u_test, u_and, u_or, u_not, u_if, u_nil, u_cons, u_tup, u_lst, u_callP, u_call, u_b, u_chain, u_andV, u_addI, u_subI, u_mulI, u_divI, u_modI, u_powI, u_cmpI, u_eqI, u_eqS, u_eqB, u_abs, u_intI, u_intB, u_newT, u_newF, u_isN, u_notN, wVar, List.set_cons_zero, List.set_cons_succ, List.getElem?_cons_zero, List.getElem?_cons_succ, List.length_cons, List.length_nil, u_lc, u_for, u_r1, u_r2, u_r3, u_num, u_notV, u_yes, u_w0, u_w1, u_dput, u_get2, u_dget, u_prop, u_fld, u_setF, u_make, u_makeS, u_met, u_calO, u_orT, u_tupIt, u_dc, u_maxDd, u_dnew, u_tupi, ix_p0, ix_p1, wSl, woNone, woSome]
      by_cases c2 : w = "fork"
      · subst c2
        rw [if_pos (decide_eq_true rfl)]
        simp only [wMethT, u_asg, u_gN, u_ret, u_retN, u_skip, u_expr, u_ifs, u_c, u_op, u_neg, u_test, u_and, u_or, u_not, u_if, u_nil, u_cons, u_tup, u_lst, u_callP, u_call, u_b, u_chain, u_andV, u_addI, u_subI, u_mulI, u_divI, u_modI, u_powI, u_cmpI, u_eqI, u_eqS, u_eqB, u_abs, u_intI, u_intB, u_newT, u_newF, u_isN, u_notN, wVar, List.set_cons_zero, List.set_cons_succ, List.getElem?_cons_zero, List.getElem?_cons_succ, List.length_cons, List.length_nil, u_lc, u_for, u_r1, u_r2, u_r3, u_num, u_notV, u_yes, u_w0, u_w1, u_dput, u_get2, u_dget, u_prop, u_fld, u_setF, u_make, u_makeS, u_met, u_calO, u_orT, u_tupIt, u_dc, u_maxDd, u_dnew, u_tupi, ix_p0, ix_p1, wSl, woNone, woSome]
        refine ⟨⟨_, lst_ref hf1⟩, ?_⟩
        by_cases c3 : (0 : Int) < (d : Nat)
        · rw [if_pos (decide_eq_true c3)]
          obtain ⟨d, rfl⟩ : ∃ e, d = e + 1 := ⟨d - 1, by omega⟩
          rw [aN] at hn i1 mm
          refine ⟨trivial, c + (1 + ii : Nat) + 1, p, d, ws, 2, ?_, I.pen, by omega, hw, by decide, by omega, by omega, fun zs o bz pz => ?_⟩
          · rw [show (((d + 1 : Nat) : Int) - 1) = (d : Nat) by omega]; rfl
          replace I := I.draw pz
          have hf2 : (up g1 p o) f = some (.lst (encs ys)) := by rw [up_ne f0.2]; exact hf1
          generalize up g1 p o = g1 at I hf2 ⊢
          refine ⟨by decide, f, encs ys, _, rfl, rfl, hf2, lf, ?_⟩
          have := done (.fork zs) g1 (2 + 2 * aN d) (some (.int (0 + (i : Nat)))) (some (.str "fork")) a7 (I.mono (by omega)) (by rw [aN]; omega) (acd_fork bz (by omega))
          rw [enc] at this
          exact this
        · rw [if_neg (by rw [decide_eq_false c3]; decide)]
          refine ⟨Nat.zero_le _, by decide, f, encs ys, _, rfl, rfl, hf1, lf, ?_⟩
          have := done (.fork []) g1 1 (some (.int (0 + (i : Nat)))) (some (.str "fork")) a7 (I.mono (by omega)) (by omega) acd_fork0
          rw [enc, encs] at this
          exact this
      · rw [if_neg (by rw [decide_eq_false c2]; decide)]
        try simp only [u_asg, u_gN, u_ret, u_retN, u_skip, u_expr, u_ifs, u_c, u_op, u_neg, u_test, u_and, u_or, u_not, u_if, u_nil, u_cons, u_tup, u_lst, u_callP, u_call, u_b, u_chain, u_andV, u_addI, u_subI, u_mulI, u_divI, u_modI, u_powI, u_cmpI, u_eqI, u_eqS, u_eqB, u_abs, u_intI, u_intB, u_newT, u_newF, u_isN, u_notN, wVar, List.set_cons_zero, List.set_cons_succ, List.getElem?_cons_zero, List.getElem?_cons_succ, List.length_cons, List.length_nil, u_lc, u_for, u_r1, u_r2, u_r3, u_num, u_notV, u_yes, u_w0, u_w1, u_dput, u_get2, u_dget, u_prop, u_fld, u_setF, u_make, u_makeS, u_met, u_calO, u_orT, u_tupIt, u_dc, u_maxDd, u_dnew, u_tupi, ix_p0, ix_p1, wSl, woNone, woSome]
        by_cases c4 : w = "repeat"
        · subst c4
          rw [if_pos (decide_eq_true rfl)]
          try dsimp only
          refine seq_go (fun ρ h' => ∃ (zs : List Ac) (e : Nat), ρ = [some (.ref p), some (.int (d : Nat)), some (.lst ws), some (.int (m : Nat)), some (.ref f), some (.int (0 + (i : Nat))), some (.str "repeat"), some (.tup (encs zs))] ∧ (∀ u, u ≤ 3 → Acd (.rep u zs) d) ∧ e + 1 ≤ aN d ∧ Inv0 h p (c + (1 + ii + e : Nat)) h' ∧ h' f = some (.lst (encs ys))) (fun K9 k9 => ?_) ?_
          · simp only [u_asg, u_gN, u_ret, u_retN, u_skip, u_expr, u_ifs, u_c, u_op, u_neg, u_test, u_and, u_or, u_not, u_if, u_nil, u_cons, u_tup, u_lst, u_callP, u_call, u_b, u_chain, u_andV, u_addI, u_subI, u_mulI, u_divI, u_modI, u_powI, u_cmpI, u_eqI, u_eqS, u_eqB, u_abs, u_intI, u_intB, u_newT, u_newF, u_isN, u_notN, wVar, List.set_cons_zero, List.set_cons_succ, List.getElem?_cons_zero, List.getElem?_cons_succ, List.length_cons, List.length_nil, u_lc, u_for, u_r1, u_r2, u_r3, u_num, u_notV, u_yes, u_w0, u_w1, u_dput, u_get2, u_dget, u_prop, u_fld, u_setF, u_make, u_makeS, u_met, u_calO, u_orT, u_tupIt, u_dc, u_maxDd, u_dnew, u_tupi, ix_p0, ix_p1, wSl, woNone, woSome]
            by_cases c3 : (0 : Int) < (d : Nat)
            · rw [if_pos (decide_eq_true c3)]
              obtain ⟨d, rfl⟩ : ∃ e, d = e + 1 := ⟨d - 1, by omega⟩
              rw [aN] at hn i1 mm
              refine ⟨trivial, c + (1 + ii : Nat) + 1, p, d, ws, 3, ?_, I.pen, by omega, hw, by decide, by omega, by omega, fun zs o bz pz => ?_⟩
              · rw [show (((d + 1 : Nat) : Int) - 1) = (d : Nat) by omega]; rfl
              replace I := I.draw pz
              have hf2 : (up g1 p o) f = some (.lst (encs ys)) := by rw [up_ne f0.2]; exact hf1
              generalize up g1 p o = g1 at I hf2 ⊢
              exact k9 _ _ ⟨zs, 2 + 3 * aN d, rfl, fun u hu => acd_rep bz hu, by rw [aN]; omega, I.mono (by omega), hf2⟩
            · rw [if_neg (by rw [decide_eq_false c3]; decide)]
              have d0 : d = 0 := by omega
              subst d0
              exact ⟨by decide, by decide, k9 _ _ ⟨[.bare "line"], 1, rfl, fun u hu => acd_rep0 hu, by decide, I.mono (by omega), hf1⟩⟩
          · rintro _ g9 ⟨zs, e, rfl, az, le, I, hf1⟩
            simp only [wMethT, u_asg, u_gN, u_ret, u_retN, u_skip, u_expr, u_ifs, u_c, u_op, u_neg, u_test, u_and, u_or, u_not, u_if, u_nil, u_cons, u_tup, u_lst, u_callP, u_call, u_b, u_chain, u_andV, u_addI, u_subI, u_mulI, u_divI, u_modI, u_powI, u_cmpI, u_eqI, u_eqS, u_eqB, u_abs, u_intI, u_intB, u_newT, u_newF, u_isN, u_notN, wVar, List.set_cons_zero, List.set_cons_succ, List.getElem?_cons_zero, List.getElem?_cons_succ, List.length_cons, List.length_nil, u_lc, u_for, u_r1, u_r2, u_r3, u_num, u_notV, u_yes, u_w0, u_w1, u_dput, u_get2, u_dget, u_prop, u_fld, u_setF, u_make, u_makeS, u_met, u_calO, u_orT, u_tupIt, u_dc, u_maxDd, u_dnew, u_tupi, ix_p0, ix_p1, wSl, woNone, woSome]
            refine ⟨⟨_, lst_ref hf1⟩, by decide, trivial, draw_go I (by omega) (div_ok (by decide) (by decide)) fun v2 o a2 b2 I keep => ?_⟩
            rw [← keep f f0.2] at hf1
            generalize up _ p o = g1 at I hf1 ⊢
            refine at_some (es := [2, 3, 0, 1]) a2 (by simpa using b2) fun u hu => ?_
            have hu : 0 ≤ u ∧ u ≤ 3 := by
              have : u = 2 ∨ u = 3 ∨ u = 0 ∨ u = 1 := by simpa using hu
              omega
            obtain ⟨uu, rfl⟩ := Int.eq_ofNat_of_zero_le hu.1
            refine ⟨by decide, f, encs ys, _, rfl, rfl, hf1, lf, ?_⟩
            have := done (.rep uu zs) g1 (e + 1) (some (.int (0 + (i : Nat)))) (some (.str "repeat")) (some (.tup (encs zs))) (I.mono (by omega)) (by omega) (az uu (by omega))
            rw [enc] at this
            exact this
        · rw [if_neg (by rw [decide_eq_false c4]; decide)]
          simp only [wMethT, u_asg, u_gN, u_ret, u_retN, u_skip, u_expr, u_ifs, u_c, u_op, u_neg, u_test, u_and, u_or, u_not, u_if, u_nil, u_cons, u_tup, u_lst, u_callP, u_call, u_b, u_chain, u_andV, u_addI, u_subI, u_mulI, u_divI, u_modI, u_powI, u_cmpI, u_eqI, u_eqS, u_eqB, u_abs, u_intI, u_intB, u_newT, u_newF, u_isN, u_notN, wVar, List.set_cons_zero, List.set_cons_succ, List.getElem?_cons_zero, List.getElem?_cons_succ, List.length_cons, List.length_nil, u_lc, u_for, u_r1, u_r2, u_r3, u_num, u_notV, u_yes, u_w0, u_w1, u_dput, u_get2, u_dget, u_prop, u_fld, u_setF, u_make, u_makeS, u_met, u_calO, u_orT, u_tupIt, u_dc, u_maxDd, u_dnew, u_tupi, ix_p0, ix_p1, wSl, woNone, woSome]
          have bw : bare w = true := by
            rcases iw with h | h | h | h
            · exact h
            · exact absurd h c1
            · exact absurd h c2
            · exact absurd h c4
          refine ⟨⟨_, lst_ref hf1⟩, by decide, f, encs ys, _, rfl, rfl, hf1, lf, ?_⟩
          have := done (.bare w) g1 1 (some (.int (0 + (i : Nat)))) (some (.str w)) a7 (I.mono (by omega)) (by omega) (acd_bare bw)
          rw [enc] at this
          exact this
  · rintro _ g ⟨a5, a6, a7, ys, rfl, I, hf1, hy⟩
    rw [intsD_len] at I hy
    try simp only [u_asg, u_gN, u_ret, u_retN, u_skip, u_expr, u_ifs, u_c, u_op, u_neg, u_test, u_and, u_or, u_not, u_if, u_nil, u_cons, u_tup, u_lst, u_callP, u_call, u_b, u_chain, u_andV, u_addI, u_subI, u_mulI, u_divI, u_modI, u_powI, u_cmpI, u_eqI, u_eqS, u_eqB, u_abs, u_intI, u_intB, u_newT, u_newF, u_isN, u_notN, wVar, List.set_cons_zero, List.set_cons_succ, List.getElem?_cons_zero, List.getElem?_cons_succ, List.length_cons, List.length_nil, u_lc, u_for, u_r1, u_r2, u_r3, u_num, u_notV, u_yes, u_w0, u_w1, u_dput, u_get2, u_dget, u_prop, u_fld, u_setF, u_make, u_makeS, u_met, u_calO, u_orT, u_tupIt, u_dc, u_maxDd, u_dnew, u_tupi, ix_p0, ix_p1, wSl, woNone, woSome]
    refine ⟨_, _, rfl, seq_ref hf1, ?_⟩
    obtain ⟨o', s1, s2⟩ := I.sub
    exact fin_sub s2 (q ys o' (bod_le hy (by omega)) (s1.mono (by omega)))
end F1
namespace F1
open PySem PySem.Spec L2 C8 DL PK

def wdL : List (List Str) := [["write", "write", "fork", "flush", "line"], ["write", "fork", "fork", "line"], ["write", "both", "flush"], ["repeat", "write", "flush", "fork"], ["write", "drop", "fork", "quit"], ["write", "fork", "exit", "both"], ["write", "line", "flush", "drop", "fork", "both", "repeat", "exit", "quit", "write", "fork"]]
theorem wd_ok : ∀ ws ∈ wdL, Wdl (ws.map .str) := by
  have h : wdL.all (fun ws => decide (1 ≤ ws.length) && decide (ws.length ≤ 50) && ws.all (fun w => bare w || decide (w = "write") || decide (w = "fork") || decide (w = "repeat"))) = true := by decide +kernel
  intro ws hw
  have := List.all_eq_true.mp h ws hw
  simp only [Bool.and_eq_true, decide_eq_true_iff] at this
  exact wdl_of ws this.1.1 this.1.2 this.2
def wdD : List D := wdL.map fun ws => .lst (ws.map D.str)
theorem p__law_words (z : Ad) : ∀ ds h Q X, S__law_words z ds h Q X → w__law_words z (endsD Q X) (startD 2 ds) h := by
  rintro ds h Q X ⟨n, p, rfl, I, hn, q⟩
  show w__law_words z (endsD Q X) [some (.ref p), none] h
  unfold w__law_words
  rw [u_seq]
  simp only [u_asg, u_gN, u_ret, u_retN, u_skip, u_expr, u_ifs, u_c, u_op, u_neg, u_test, u_and, u_or, u_not, u_if, u_nil, u_cons, u_tup, u_lst, u_callP, u_call, u_b, u_chain, u_andV, u_addI, u_subI, u_mulI, u_divI, u_modI, u_powI, u_cmpI, u_eqI, u_eqS, u_eqB, u_abs, u_intI, u_intB, u_newT, u_newF, u_isN, u_notN, wVar, List.set_cons_zero, List.set_cons_succ, List.getElem?_cons_zero, List.getElem?_cons_succ, List.length_cons, List.length_nil, u_lc, u_for, u_r1, u_r2, u_r3, u_num, u_notV, u_yes, u_w0, u_w1, u_dput, u_get2, u_dget, u_prop, u_fld, u_setF, u_make, u_makeS, u_met, u_calO, u_orT, u_tupIt, u_dc, u_maxDd, u_dnew, u_tupi, ix_p0, ix_p1, wSl, woNone, woSome]
  repeat (first | refine ⟨by decide, ?_⟩ | rw [u_newF])
  intro d hd
  replace I := Inv0.start I
  have d0 := I.fresh hd
  ((try dsimp only); rw [u_seq]; (try simp only [u_asg, u_gN, u_ret, u_retN, u_skip, u_expr, u_ifs, u_c, u_op, u_neg, u_test, u_and, u_or, u_not, u_if, u_nil, u_cons, u_tup, u_lst, u_callP, u_call, u_b, u_chain, u_andV, u_addI, u_subI, u_mulI, u_divI, u_modI, u_powI, u_cmpI, u_eqI, u_eqS, u_eqB, u_abs, u_intI, u_intB, u_newT, u_newF, u_isN, u_notN, wVar, List.set_cons_zero, List.set_cons_succ, List.getElem?_cons_zero, List.getElem?_cons_succ, List.length_cons, List.length_nil, u_lc, u_for, u_r1, u_r2, u_r3, u_num, u_notV, u_yes, u_w0, u_w1, u_dput, u_get2, u_dget, u_prop, u_fld, u_setF, u_make, u_makeS, u_met, u_calO, u_orT, u_tupIt, u_dc, u_maxDd, u_dnew, u_tupi, ix_p0, ix_p1, wSl, woNone, woSome]))
  repeat (first | refine ⟨by decide, ?_⟩ | rw [u_newF])
  simp only [wMethT, u_asg, u_gN, u_ret, u_retN, u_skip, u_expr, u_ifs, u_c, u_op, u_neg, u_test, u_and, u_or, u_not, u_if, u_nil, u_cons, u_tup, u_lst, u_callP, u_call, u_b, u_chain, u_andV, u_addI, u_subI, u_mulI, u_divI, u_modI, u_powI, u_cmpI, u_eqI, u_eqS, u_eqB, u_abs, u_intI, u_intB, u_newT, u_newF, u_isN, u_notN, wVar, List.set_cons_zero, List.set_cons_succ, List.getElem?_cons_zero, List.getElem?_cons_succ, List.length_cons, List.length_nil, u_lc, u_for, u_r1, u_r2, u_r3, u_num, u_notV, u_yes, u_w0, u_w1, u_dput, u_get2, u_dget, u_prop, u_fld, u_setF, u_make, u_makeS, u_met, u_calO, u_orT, u_tupIt, u_dc, u_maxDd, u_dnew, u_tupi, ix_p0, ix_p1, wSl, woNone, woSome]
  refine ⟨⟨_, lst_ref up_same⟩, ?_⟩
  repeat (first | refine ⟨by decide, ?_⟩ | rw [u_newF])
  refine ⟨d, _, _, rfl, rfl, up_same, by decide, ?_⟩
  rw [up_up]
  try simp only [u_asg, u_gN, u_ret, u_retN, u_skip, u_expr, u_ifs, u_c, u_op, u_neg, u_test, u_and, u_or, u_not, u_if, u_nil, u_cons, u_tup, u_lst, u_callP, u_call, u_b, u_chain, u_andV, u_addI, u_subI, u_mulI, u_divI, u_modI, u_powI, u_cmpI, u_eqI, u_eqS, u_eqB, u_abs, u_intI, u_intB, u_newT, u_newF, u_isN, u_notN, wVar, List.set_cons_zero, List.set_cons_succ, List.getElem?_cons_zero, List.getElem?_cons_succ, List.length_cons, List.length_nil, u_lc, u_for, u_r1, u_r2, u_r3, u_num, u_notV, u_yes, u_w0, u_w1, u_dput, u_get2, u_dget, u_prop, u_fld, u_setF, u_make, u_makeS, u_met, u_calO, u_orT, u_tupIt, u_dc, u_maxDd, u_dnew, u_tupi, ix_p0, ix_p1, wSl, woNone, woSome]
  have I2 := I.new (o := .lst wdD) hd
  have hd2 : (up h d (.lst wdD)) d = some (.lst wdD) := up_same
  refine ⟨trivial, ?_⟩
  show S_draw [.ref p, .int 7] (up h d (.lst wdD)) _ _
  refine draw_go I2 (by omega) (div_ok (by decide) (by decide)) fun v o a b I3 keep => ?_
  rw [← keep d d0.2] at hd2
  obtain ⟨x, hx, e⟩ := at_memq (xs := wdD) a b
  obtain ⟨ws, hw, rfl⟩ := List.mem_map.mp hx
  rw [u_ixRd hd2 e]
  obtain ⟨o', s1, s2⟩ := I3.sub
  exact fin_sub s2 (q _ o' (wd_ok ws hw) s1)
theorem p__law_bulk (z : Ad) : ∀ ds h Q X, S__law_bulk z ds h Q X → w__law_bulk z (endsD Q X) (startD 1 ds) h := by
  rintro ds h Q X ⟨a, rfl, oa, q⟩
  show w__law_bulk z (endsD Q X) [some (enc a)] h
  unfold w__law_bulk
  try simp only [u_asg, u_gN, u_ret, u_retN, u_skip, u_expr, u_ifs, u_c, u_op, u_neg, u_test, u_and, u_or, u_not, u_if, u_nil, u_cons, u_tup, u_lst, u_callP, u_call, u_b, u_chain, u_andV, u_addI, u_subI, u_mulI, u_divI, u_modI, u_powI, u_cmpI, u_eqI, u_eqS, u_eqB, u_abs, u_intI, u_intB, u_newT, u_newF, u_isN, u_notN, wVar, List.set_cons_zero, List.set_cons_succ, List.getElem?_cons_zero, List.getElem?_cons_succ, List.length_cons, List.length_nil, u_lc, u_for, u_r1, u_r2, u_r3, u_num, u_notV, u_yes, u_w0, u_w1, u_dput, u_get2, u_dget, u_prop, u_fld, u_setF, u_make, u_makeS, u_met, u_calO, u_orT, u_tupIt, u_dc, u_maxDd, u_dnew, u_tupi, ix_p0, ix_p1, wSl, woNone, woSome]
  rw [ix_word]
  try simp only [u_asg, u_gN, u_ret, u_retN, u_skip, u_expr, u_ifs, u_c, u_op, u_neg, u_test, u_and, u_or, u_not, u_if, u_nil, u_cons, u_tup, u_lst, u_callP, u_call, u_b, u_chain, u_andV, u_addI, u_subI, u_mulI, u_divI, u_modI, u_powI, u_cmpI, u_eqI, u_eqS, u_eqB, u_abs, u_intI, u_intB, u_newT, u_newF, u_isN, u_notN, wVar, List.set_cons_zero, List.set_cons_succ, List.getElem?_cons_zero, List.getElem?_cons_succ, List.length_cons, List.length_nil, u_lc, u_for, u_r1, u_r2, u_r3, u_num, u_notV, u_yes, u_w0, u_w1, u_dput, u_get2, u_dget, u_prop, u_fld, u_setF, u_make, u_makeS, u_met, u_calO, u_orT, u_tupIt, u_dc, u_maxDd, u_dnew, u_tupi, ix_p0, ix_p1, wSl, woNone, woSome]
  by_cases c : word a = "write"
  · rw [if_pos (decide_eq_true c)]
    cases a with
    | bare w => rw [okA] at oa; exact absurd (show w = "write" from c) (bare_ne oa).2.2
    | write n => rw [ix_write1]; exact fin_of q
    | fork b => exact absurd (show ("fork" : Str) = "write" from c) (by decide)
    | rep n b => exact absurd (show ("repeat" : Str) = "write" from c) (by decide)
  · rw [if_neg (by rw [decide_eq_false c]; decide)]
    rw [ix_word]
    try simp only [u_asg, u_gN, u_ret, u_retN, u_skip, u_expr, u_ifs, u_c, u_op, u_neg, u_test, u_and, u_or, u_not, u_if, u_nil, u_cons, u_tup, u_lst, u_callP, u_call, u_b, u_chain, u_andV, u_addI, u_subI, u_mulI, u_divI, u_modI, u_powI, u_cmpI, u_eqI, u_eqS, u_eqB, u_abs, u_intI, u_intB, u_newT, u_newF, u_isN, u_notN, wVar, List.set_cons_zero, List.set_cons_succ, List.getElem?_cons_zero, List.getElem?_cons_succ, List.length_cons, List.length_nil, u_lc, u_for, u_r1, u_r2, u_r3, u_num, u_notV, u_yes, u_w0, u_w1, u_dput, u_get2, u_dget, u_prop, u_fld, u_setF, u_make, u_makeS, u_met, u_calO, u_orT, u_tupIt, u_dc, u_maxDd, u_dnew, u_tupi, ix_p0, ix_p1, wSl, woNone, woSome]
    have e : (if decide (word a = "line") = true then (1 : Int) else 0) = ((byt a : Nat) : Int) := by
      cases a with
      | bare w =>
        unfold byt word; dsimp only
        by_cases c2 : w = "line"
        · rw [if_pos (decide_eq_true c2), if_pos c2]; rfl
        · rw [if_neg (by rw [decide_eq_false c2]; decide), if_neg c2]; rfl
      | write n => exact absurd rfl c
      | fork b => rfl
      | rep n b => rfl
    show fin Q (.int (if decide (word a = "line") = true then (1 : Int) else 0)) h
    rw [e]
    exact fin_of q
theorem p__law_size (z : Ad) (n : Nat) : ∀ ds h Q X, S__law_size z (n + 1) ds h Q X → w__law_size z n (endsD Q X) (startD 3 ds) h := by
  rintro ds h Q X ⟨b, rfl, ok, dp, q⟩
  show w__law_size z n (endsD Q X) [some (.tup (encs b)), none, none] h
  unfold w__law_size
  ((try dsimp only); rw [u_seq]; (try simp only [u_asg, u_gN, u_ret, u_retN, u_skip, u_expr, u_ifs, u_c, u_op, u_neg, u_test, u_and, u_or, u_not, u_if, u_nil, u_cons, u_tup, u_lst, u_callP, u_call, u_b, u_chain, u_andV, u_addI, u_subI, u_mulI, u_divI, u_modI, u_powI, u_cmpI, u_eqI, u_eqS, u_eqB, u_abs, u_intI, u_intB, u_newT, u_newF, u_isN, u_notN, wVar, List.set_cons_zero, List.set_cons_succ, List.getElem?_cons_zero, List.getElem?_cons_succ, List.length_cons, List.length_nil, u_lc, u_for, u_r1, u_r2, u_r3, u_num, u_notV, u_yes, u_w0, u_w1, u_dput, u_get2, u_dget, u_prop, u_fld, u_setF, u_make, u_makeS, u_met, u_calO, u_orT, u_tupIt, u_dc, u_maxDd, u_dnew, u_tupi, ix_p0, ix_p1, wSl, woNone, woSome]))
  ((try dsimp only); rw [u_seq]; (try simp only [u_asg, u_gN, u_ret, u_retN, u_skip, u_expr, u_ifs, u_c, u_op, u_neg, u_test, u_and, u_or, u_not, u_if, u_nil, u_cons, u_tup, u_lst, u_callP, u_call, u_b, u_chain, u_andV, u_addI, u_subI, u_mulI, u_divI, u_modI, u_powI, u_cmpI, u_eqI, u_eqS, u_eqB, u_abs, u_intI, u_intB, u_newT, u_newF, u_isN, u_notN, wVar, List.set_cons_zero, List.set_cons_succ, List.getElem?_cons_zero, List.getElem?_cons_succ, List.length_cons, List.length_nil, u_lc, u_for, u_r1, u_r2, u_r3, u_num, u_notV, u_yes, u_w0, u_w1, u_dput, u_get2, u_dget, u_prop, u_fld, u_setF, u_make, u_makeS, u_met, u_calO, u_orT, u_tupIt, u_dc, u_maxDd, u_dnew, u_tupi, ix_p0, ix_p1, wSl, woNone, woSome]))
  refine loop_rest (fun l ρ h' => ∃ b2 t a2, l = encs b2 ∧ ρ = [some (.tup (encs b)), some (.int ((t : Nat) : Int)), a2] ∧ h = h' ∧ okB b2 = true ∧ dptB b2 ≤ dptB b ∧ t + sizB b2 = sizB b) (fun _ _ _ _ => trivial) ?_ ?_ _ _ _
    ⟨b, 0, _, rfl, rfl, rfl, ok, Nat.le_refl _, Nat.zero_add _⟩
  · rintro x l _ _ K ⟨b2, t, a2, hl, rfl, rfl, ok2, dp2, ln⟩ k
    obtain ⟨a, r, rfl, rfl, rfl⟩ := encs_cons hl
    obtain ⟨oa, or_⟩ := okB_cons ok2
    rw [dptB] at dp2
    rw [sizB] at ln
    rw [u_gN]
    dsimp only [List.set_cons_zero, List.set_cons_succ]
    try simp only [u_asg, u_gN, u_ret, u_retN, u_skip, u_expr, u_ifs, u_c, u_op, u_neg, u_test, u_and, u_or, u_not, u_if, u_nil, u_cons, u_tup, u_lst, u_callP, u_call, u_b, u_chain, u_andV, u_addI, u_subI, u_mulI, u_divI, u_modI, u_powI, u_cmpI, u_eqI, u_eqS, u_eqB, u_abs, u_intI, u_intB, u_newT, u_newF, u_isN, u_notN, wVar, List.set_cons_zero, List.set_cons_succ, List.getElem?_cons_zero, List.getElem?_cons_succ, List.length_cons, List.length_nil, u_lc, u_for, u_r1, u_r2, u_r3, u_num, u_notV, u_yes, u_w0, u_w1, u_dput, u_get2, u_dget, u_prop, u_fld, u_setF, u_make, u_makeS, u_met, u_calO, u_orT, u_tupIt, u_dc, u_maxDd, u_dnew, u_tupi, ix_p0, ix_p1, wSl, woNone, woSome]
    rw [ix_word]
    try simp only [u_asg, u_gN, u_ret, u_retN, u_skip, u_expr, u_ifs, u_c, u_op, u_neg, u_test, u_and, u_or, u_not, u_if, u_nil, u_cons, u_tup, u_lst, u_callP, u_call, u_b, u_chain, u_andV, u_addI, u_subI, u_mulI, u_divI, u_modI, u_powI, u_cmpI, u_eqI, u_eqS, u_eqB, u_abs, u_intI, u_intB, u_newT, u_newF, u_isN, u_notN, wVar, List.set_cons_zero, List.set_cons_succ, List.getElem?_cons_zero, List.getElem?_cons_succ, List.length_cons, List.length_nil, u_lc, u_for, u_r1, u_r2, u_r3, u_num, u_notV, u_yes, u_w0, u_w1, u_dput, u_get2, u_dget, u_prop, u_fld, u_setF, u_make, u_makeS, u_met, u_calO, u_orT, u_tupIt, u_dc, u_maxDd, u_dnew, u_tupi, ix_p0, ix_p1, wSl, woNone, woSome]
    by_cases hr : word a = "repeat"
    · rw [if_pos (decide_eq_true hr)]
      obtain ⟨m, c, rfl⟩ := (word_rep oa).mp hr
      have om := oa
      rw [okA, Bool.and_eq_true, decide_eq_true_iff] at om
      rw [dptA] at dp2
      rw [ix_rep1, ix_rep2]
      refine ⟨trivial, c, rfl, om.2, by omega, ?_⟩
      try simp only [u_asg, u_gN, u_ret, u_retN, u_skip, u_expr, u_ifs, u_c, u_op, u_neg, u_test, u_and, u_or, u_not, u_if, u_nil, u_cons, u_tup, u_lst, u_callP, u_call, u_b, u_chain, u_andV, u_addI, u_subI, u_mulI, u_divI, u_modI, u_powI, u_cmpI, u_eqI, u_eqS, u_eqB, u_abs, u_intI, u_intB, u_newT, u_newF, u_isN, u_notN, wVar, List.set_cons_zero, List.set_cons_succ, List.getElem?_cons_zero, List.getElem?_cons_succ, List.length_cons, List.length_nil, u_lc, u_for, u_r1, u_r2, u_r3, u_num, u_notV, u_yes, u_w0, u_w1, u_dput, u_get2, u_dget, u_prop, u_fld, u_setF, u_make, u_makeS, u_met, u_calO, u_orT, u_tupIt, u_dc, u_maxDd, u_dnew, u_tupi, ix_p0, ix_p1, wSl, woNone, woSome]
      have e : (t : Int) + (m : Int) * (sizB c : Nat) = ((t + sizA (.rep m c) : Nat) : Int) := by rw [sizA]; simp [Int.natCast_add]
      rw [e]
      exact ⟨big_mul om.1, k _ _ ⟨r, _, _, rfl, rfl, rfl, or_, by omega, by omega⟩⟩
    · rw [if_neg (by rw [decide_eq_false hr]; decide)]
      rw [ix_word]
      try simp only [u_asg, u_gN, u_ret, u_retN, u_skip, u_expr, u_ifs, u_c, u_op, u_neg, u_test, u_and, u_or, u_not, u_if, u_nil, u_cons, u_tup, u_lst, u_callP, u_call, u_b, u_chain, u_andV, u_addI, u_subI, u_mulI, u_divI, u_modI, u_powI, u_cmpI, u_eqI, u_eqS, u_eqB, u_abs, u_intI, u_intB, u_newT, u_newF, u_isN, u_notN, wVar, List.set_cons_zero, List.set_cons_succ, List.getElem?_cons_zero, List.getElem?_cons_succ, List.length_cons, List.length_nil, u_lc, u_for, u_r1, u_r2, u_r3, u_num, u_notV, u_yes, u_w0, u_w1, u_dput, u_get2, u_dget, u_prop, u_fld, u_setF, u_make, u_makeS, u_met, u_calO, u_orT, u_tupIt, u_dc, u_maxDd, u_dnew, u_tupi, ix_p0, ix_p1, wSl, woNone, woSome]
      have sa := sizA_non hr
      by_cases hf : word a = "fork"
      · rw [if_pos (decide_eq_true hf)]
        obtain ⟨c, rfl⟩ := (word_fork oa).mp hf
        rw [okA] at oa
        rw [dptA] at dp2
        rw [ix_fork1]
        refine ⟨trivial, c, rfl, oa, by omega, ?_⟩
        have e : (t : Int) + 1 + (sizB c : Nat) = ((t + sizA (.fork c) : Nat) : Int) := by rw [sizA]; omega
        try simp only [u_asg, u_gN, u_ret, u_retN, u_skip, u_expr, u_ifs, u_c, u_op, u_neg, u_test, u_and, u_or, u_not, u_if, u_nil, u_cons, u_tup, u_lst, u_callP, u_call, u_b, u_chain, u_andV, u_addI, u_subI, u_mulI, u_divI, u_modI, u_powI, u_cmpI, u_eqI, u_eqS, u_eqB, u_abs, u_intI, u_intB, u_newT, u_newF, u_isN, u_notN, wVar, List.set_cons_zero, List.set_cons_succ, List.getElem?_cons_zero, List.getElem?_cons_succ, List.length_cons, List.length_nil, u_lc, u_for, u_r1, u_r2, u_r3, u_num, u_notV, u_yes, u_w0, u_w1, u_dput, u_get2, u_dget, u_prop, u_fld, u_setF, u_make, u_makeS, u_met, u_calO, u_orT, u_tupIt, u_dc, u_maxDd, u_dnew, u_tupi, ix_p0, ix_p1, wSl, woNone, woSome]
        rw [e]
        exact k _ _ ⟨r, _, _, rfl, rfl, rfl, or_, by omega, by omega⟩
      · rw [if_neg (by rw [decide_eq_false hf]; decide)]
        have e : (t : Int) + 1 + 0 = ((t + sizA a : Nat) : Int) := by
          have : inn a = [] := by
            cases a with
            | bare w => rfl
            | write n => rfl
            | fork b => exact absurd rfl hf
            | rep n b => exact absurd rfl hr
          rw [sa, this, sizB]; omega
        rw [e]
        exact k _ _ ⟨r, _, _, rfl, rfl, rfl, or_, by omega, by omega⟩
  · rintro _ _ ⟨b2, t, a2, hl, rfl, rfl, ok2, dp2, ln⟩
    obtain rfl := encs_nil hl
    try simp only [u_asg, u_gN, u_ret, u_retN, u_skip, u_expr, u_ifs, u_c, u_op, u_neg, u_test, u_and, u_or, u_not, u_if, u_nil, u_cons, u_tup, u_lst, u_callP, u_call, u_b, u_chain, u_andV, u_addI, u_subI, u_mulI, u_divI, u_modI, u_powI, u_cmpI, u_eqI, u_eqS, u_eqB, u_abs, u_intI, u_intB, u_newT, u_newF, u_isN, u_notN, wVar, List.set_cons_zero, List.set_cons_succ, List.getElem?_cons_zero, List.getElem?_cons_succ, List.length_cons, List.length_nil, u_lc, u_for, u_r1, u_r2, u_r3, u_num, u_notV, u_yes, u_w0, u_w1, u_dput, u_get2, u_dget, u_prop, u_fld, u_setF, u_make, u_makeS, u_met, u_calO, u_orT, u_tupIt, u_dc, u_maxDd, u_dnew, u_tupi, ix_p0, ix_p1, wSl, woNone, woSome]
    rw [sizB, Nat.add_zero] at ln
    rw [ln]
    exact fin_of q
theorem p__law_far (z : Ad) (n : Nat) : ∀ ds h Q X, S__law_far z (n + 1) ds h Q X → w__law_far z n (endsD Q X) (startD 6 ds) h := by
  rintro ds h Q X ⟨b, rfl, ok, dp, q⟩
  show w__law_far z n (endsD Q X) [some (.tup (encs b)), none, none, none, none, none] h
  unfold w__law_far
  ((try dsimp only); rw [u_seq]; (try simp only [u_asg, u_gN, u_ret, u_retN, u_skip, u_expr, u_ifs, u_c, u_op, u_neg, u_test, u_and, u_or, u_not, u_if, u_nil, u_cons, u_tup, u_lst, u_callP, u_call, u_b, u_chain, u_andV, u_addI, u_subI, u_mulI, u_divI, u_modI, u_powI, u_cmpI, u_eqI, u_eqS, u_eqB, u_abs, u_intI, u_intB, u_newT, u_newF, u_isN, u_notN, wVar, List.set_cons_zero, List.set_cons_succ, List.getElem?_cons_zero, List.getElem?_cons_succ, List.length_cons, List.length_nil, u_lc, u_for, u_r1, u_r2, u_r3, u_num, u_notV, u_yes, u_w0, u_w1, u_dput, u_get2, u_dget, u_prop, u_fld, u_setF, u_make, u_makeS, u_met, u_calO, u_orT, u_tupIt, u_dc, u_maxDd, u_dnew, u_tupi, ix_p0, ix_p1, wSl, woNone, woSome]))
  refine ⟨by decide, go_t2 ?_⟩
  try dsimp only [List.set_cons_zero, List.set_cons_succ]
  ((try dsimp only); rw [u_seq]; (try simp only [u_asg, u_gN, u_ret, u_retN, u_skip, u_expr, u_ifs, u_c, u_op, u_neg, u_test, u_and, u_or, u_not, u_if, u_nil, u_cons, u_tup, u_lst, u_callP, u_call, u_b, u_chain, u_andV, u_addI, u_subI, u_mulI, u_divI, u_modI, u_powI, u_cmpI, u_eqI, u_eqS, u_eqB, u_abs, u_intI, u_intB, u_newT, u_newF, u_isN, u_notN, wVar, List.set_cons_zero, List.set_cons_succ, List.getElem?_cons_zero, List.getElem?_cons_succ, List.length_cons, List.length_nil, u_lc, u_for, u_r1, u_r2, u_r3, u_num, u_notV, u_yes, u_w0, u_w1, u_dput, u_get2, u_dget, u_prop, u_fld, u_setF, u_make, u_makeS, u_met, u_calO, u_orT, u_tupIt, u_dc, u_maxDd, u_dnew, u_tupi, ix_p0, ix_p1, wSl, woNone, woSome]))
  refine loop_rest (fun l ρ h' => ∃ b2 t m a3 a4 a5, l = encs b2 ∧ ρ = [some (.tup (encs b)), some (.int ((t : Nat) : Int)), some (.int ((m : Nat) : Int)), a3, a4, a5] ∧ h = h' ∧ okB b2 = true ∧ dptB b2 ≤ dptB b ∧ rchL b2 t m = rchB b ∧ t + bynB b2 = bynB b) (fun _ _ _ _ => trivial) ?_ ?_ _ _ _
    ⟨b, 0, 0, _, _, _, rfl, rfl, rfl, ok, Nat.le_refl _, rfl, Nat.zero_add _⟩
  · rintro x l _ _ K ⟨b2, t, m, a3, a4, a5, hl, rfl, rfl, ok2, dp2, ln, lb⟩ k
    obtain ⟨a, r, rfl, rfl, rfl⟩ := encs_cons hl
    obtain ⟨oa, or_⟩ := okB_cons ok2
    rw [dptB] at dp2
    rw [rchL] at ln
    rw [bynB] at lb
    rw [u_gN]
    dsimp only [List.set_cons_zero, List.set_cons_succ]
    try simp only [u_asg, u_gN, u_ret, u_retN, u_skip, u_expr, u_ifs, u_c, u_op, u_neg, u_test, u_and, u_or, u_not, u_if, u_nil, u_cons, u_tup, u_lst, u_callP, u_call, u_b, u_chain, u_andV, u_addI, u_subI, u_mulI, u_divI, u_modI, u_powI, u_cmpI, u_eqI, u_eqS, u_eqB, u_abs, u_intI, u_intB, u_newT, u_newF, u_isN, u_notN, wVar, List.set_cons_zero, List.set_cons_succ, List.getElem?_cons_zero, List.getElem?_cons_succ, List.length_cons, List.length_nil, u_lc, u_for, u_r1, u_r2, u_r3, u_num, u_notV, u_yes, u_w0, u_w1, u_dput, u_get2, u_dget, u_prop, u_fld, u_setF, u_make, u_makeS, u_met, u_calO, u_orT, u_tupIt, u_dc, u_maxDd, u_dnew, u_tupi, ix_p0, ix_p1, wSl, woNone, woSome]
    rw [ix_word]
    try simp only [u_asg, u_gN, u_ret, u_retN, u_skip, u_expr, u_ifs, u_c, u_op, u_neg, u_test, u_and, u_or, u_not, u_if, u_nil, u_cons, u_tup, u_lst, u_callP, u_call, u_b, u_chain, u_andV, u_addI, u_subI, u_mulI, u_divI, u_modI, u_powI, u_cmpI, u_eqI, u_eqS, u_eqB, u_abs, u_intI, u_intB, u_newT, u_newF, u_isN, u_notN, wVar, List.set_cons_zero, List.set_cons_succ, List.getElem?_cons_zero, List.getElem?_cons_succ, List.length_cons, List.length_nil, u_lc, u_for, u_r1, u_r2, u_r3, u_num, u_notV, u_yes, u_w0, u_w1, u_dput, u_get2, u_dget, u_prop, u_fld, u_setF, u_make, u_makeS, u_met, u_calO, u_orT, u_tupIt, u_dc, u_maxDd, u_dnew, u_tupi, ix_p0, ix_p1, wSl, woNone, woSome]
    by_cases hf : word a = "fork"
    · rw [if_pos (decide_eq_true hf)]
      obtain ⟨c, rfl⟩ := (word_fork oa).mp hf
      rw [okA] at oa
      rw [dptA] at dp2
      rw [ix_fork1]
      refine ⟨trivial, c, rfl, oa, by omega, ?_⟩
      dsimp only
      rw [u_ixTd at1]
      try simp only [u_asg, u_gN, u_ret, u_retN, u_skip, u_expr, u_ifs, u_c, u_op, u_neg, u_test, u_and, u_or, u_not, u_if, u_nil, u_cons, u_tup, u_lst, u_callP, u_call, u_b, u_chain, u_andV, u_addI, u_subI, u_mulI, u_divI, u_modI, u_powI, u_cmpI, u_eqI, u_eqS, u_eqB, u_abs, u_intI, u_intB, u_newT, u_newF, u_isN, u_notN, wVar, List.set_cons_zero, List.set_cons_succ, List.getElem?_cons_zero, List.getElem?_cons_succ, List.length_cons, List.length_nil, u_lc, u_for, u_r1, u_r2, u_r3, u_num, u_notV, u_yes, u_w0, u_w1, u_dput, u_get2, u_dget, u_prop, u_fld, u_setF, u_make, u_makeS, u_met, u_calO, u_orT, u_tupIt, u_dc, u_maxDd, u_dnew, u_tupi, ix_p0, ix_p1, wSl, woNone, woSome]
      have e : (t : Int) + (rchB c : Nat) = ((t + rchB c : Nat) : Int) := by omega
      rw [e]
      refine go_max (k _ _ ⟨r, t, _, _, _, _, rfl, rfl, rfl, or_, by omega, ?_, ?_⟩)
      · rw [← ln, rchA, bynA]; rfl
      · rw [← lb, bynA]; omega
    · rw [if_neg (by rw [decide_eq_false hf]; decide)]
      rw [ix_word]
      try simp only [u_asg, u_gN, u_ret, u_retN, u_skip, u_expr, u_ifs, u_c, u_op, u_neg, u_test, u_and, u_or, u_not, u_if, u_nil, u_cons, u_tup, u_lst, u_callP, u_call, u_b, u_chain, u_andV, u_addI, u_subI, u_mulI, u_divI, u_modI, u_powI, u_cmpI, u_eqI, u_eqS, u_eqB, u_abs, u_intI, u_intB, u_newT, u_newF, u_isN, u_notN, wVar, List.set_cons_zero, List.set_cons_succ, List.getElem?_cons_zero, List.getElem?_cons_succ, List.length_cons, List.length_nil, u_lc, u_for, u_r1, u_r2, u_r3, u_num, u_notV, u_yes, u_w0, u_w1, u_dput, u_get2, u_dget, u_prop, u_fld, u_setF, u_make, u_makeS, u_met, u_calO, u_orT, u_tupIt, u_dc, u_maxDd, u_dnew, u_tupi, ix_p0, ix_p1, wSl, woNone, woSome]
      by_cases hr : word a = "repeat"
      · rw [if_pos (decide_eq_true hr)]
        obtain ⟨i, c, rfl⟩ := (word_rep oa).mp hr
        have om := oa
        rw [okA, Bool.and_eq_true, decide_eq_true_iff] at om
        rw [dptA] at dp2
        ((try dsimp only); rw [u_seq]; (try simp only [u_asg, u_gN, u_ret, u_retN, u_skip, u_expr, u_ifs, u_c, u_op, u_neg, u_test, u_and, u_or, u_not, u_if, u_nil, u_cons, u_tup, u_lst, u_callP, u_call, u_b, u_chain, u_andV, u_addI, u_subI, u_mulI, u_divI, u_modI, u_powI, u_cmpI, u_eqI, u_eqS, u_eqB, u_abs, u_intI, u_intB, u_newT, u_newF, u_isN, u_notN, wVar, List.set_cons_zero, List.set_cons_succ, List.getElem?_cons_zero, List.getElem?_cons_succ, List.length_cons, List.length_nil, u_lc, u_for, u_r1, u_r2, u_r3, u_num, u_notV, u_yes, u_w0, u_w1, u_dput, u_get2, u_dget, u_prop, u_fld, u_setF, u_make, u_makeS, u_met, u_calO, u_orT, u_tupIt, u_dc, u_maxDd, u_dnew, u_tupi, ix_p0, ix_p1, wSl, woNone, woSome]))
        rw [ix_rep2]
        refine ⟨trivial, c, rfl, om.2, by omega, ?_⟩
        refine go_t2 ?_
        try simp only [u_asg, u_gN, u_ret, u_retN, u_skip, u_expr, u_ifs, u_c, u_op, u_neg, u_test, u_and, u_or, u_not, u_if, u_nil, u_cons, u_tup, u_lst, u_callP, u_call, u_b, u_chain, u_andV, u_addI, u_subI, u_mulI, u_divI, u_modI, u_powI, u_cmpI, u_eqI, u_eqS, u_eqB, u_abs, u_intI, u_intB, u_newT, u_newF, u_isN, u_notN, wVar, List.set_cons_zero, List.set_cons_succ, List.getElem?_cons_zero, List.getElem?_cons_succ, List.length_cons, List.length_nil, u_lc, u_for, u_r1, u_r2, u_r3, u_num, u_notV, u_yes, u_w0, u_w1, u_dput, u_get2, u_dget, u_prop, u_fld, u_setF, u_make, u_makeS, u_met, u_calO, u_orT, u_tupIt, u_dc, u_maxDd, u_dnew, u_tupi, ix_p0, ix_p1, wSl, woNone, woSome]
        rw [rchA] at ln
        refine seq_go (fun ρ h' => ∃ m2 : Nat, ρ = [some (.tup (encs b)), some (.int ((t : Nat) : Int)), some (.int ((m2 : Nat) : Int)), some (enc (.rep i c)), some (.int (bynB c : Nat)), some (.int (rchB c : Nat))] ∧ h' = h ∧ rchL r (t + bynA (.rep i c)) m2 = rchB b) (fun K9 k9 => ?_) ?_
        · try simp only [u_asg, u_gN, u_ret, u_retN, u_skip, u_expr, u_ifs, u_c, u_op, u_neg, u_test, u_and, u_or, u_not, u_if, u_nil, u_cons, u_tup, u_lst, u_callP, u_call, u_b, u_chain, u_andV, u_addI, u_subI, u_mulI, u_divI, u_modI, u_powI, u_cmpI, u_eqI, u_eqS, u_eqB, u_abs, u_intI, u_intB, u_newT, u_newF, u_isN, u_notN, wVar, List.set_cons_zero, List.set_cons_succ, List.getElem?_cons_zero, List.getElem?_cons_succ, List.length_cons, List.length_nil, u_lc, u_for, u_r1, u_r2, u_r3, u_num, u_notV, u_yes, u_w0, u_w1, u_dput, u_get2, u_dget, u_prop, u_fld, u_setF, u_make, u_makeS, u_met, u_calO, u_orT, u_tupIt, u_dc, u_maxDd, u_dnew, u_tupi, ix_p0, ix_p1, wSl, woNone, woSome]
          rw [ix_rep1]
          try simp only [u_asg, u_gN, u_ret, u_retN, u_skip, u_expr, u_ifs, u_c, u_op, u_neg, u_test, u_and, u_or, u_not, u_if, u_nil, u_cons, u_tup, u_lst, u_callP, u_call, u_b, u_chain, u_andV, u_addI, u_subI, u_mulI, u_divI, u_modI, u_powI, u_cmpI, u_eqI, u_eqS, u_eqB, u_abs, u_intI, u_intB, u_newT, u_newF, u_isN, u_notN, wVar, List.set_cons_zero, List.set_cons_succ, List.getElem?_cons_zero, List.getElem?_cons_succ, List.length_cons, List.length_nil, u_lc, u_for, u_r1, u_r2, u_r3, u_num, u_notV, u_yes, u_w0, u_w1, u_dput, u_get2, u_dget, u_prop, u_fld, u_setF, u_make, u_makeS, u_met, u_calO, u_orT, u_tupIt, u_dc, u_maxDd, u_dnew, u_tupi, ix_p0, ix_p1, wSl, woNone, woSome]
          by_cases ci : i = 0
          · rw [if_neg (by rw [decide_eq_false (by omega)]; decide)]
            rw [if_pos ci] at ln
            exact k9 _ _ ⟨m, rfl, rfl, ln⟩
          · rw [if_pos (decide_eq_true (by omega))]
            rw [if_neg ci] at ln
            rw [ix_rep1]
            try simp only [u_asg, u_gN, u_ret, u_retN, u_skip, u_expr, u_ifs, u_c, u_op, u_neg, u_test, u_and, u_or, u_not, u_if, u_nil, u_cons, u_tup, u_lst, u_callP, u_call, u_b, u_chain, u_andV, u_addI, u_subI, u_mulI, u_divI, u_modI, u_powI, u_cmpI, u_eqI, u_eqS, u_eqB, u_abs, u_intI, u_intB, u_newT, u_newF, u_isN, u_notN, wVar, List.set_cons_zero, List.set_cons_succ, List.getElem?_cons_zero, List.getElem?_cons_succ, List.length_cons, List.length_nil, u_lc, u_for, u_r1, u_r2, u_r3, u_num, u_notV, u_yes, u_w0, u_w1, u_dput, u_get2, u_dget, u_prop, u_fld, u_setF, u_make, u_makeS, u_met, u_calO, u_orT, u_tupIt, u_dc, u_maxDd, u_dnew, u_tupi, ix_p0, ix_p1, wSl, woNone, woSome]
            refine ⟨.inl ⟨by omega, by omega⟩, ?_⟩
            have e1 : (t : Int) + ((i : Int) - 1) * (bynB c : Nat) + (rchB c : Nat) = ((t + (i - 1) * bynB c + rchB c : Nat) : Int) := by
              rw [show ((i : Int) - 1) = ((i - 1 : Nat) : Int) by omega]; simp [Int.natCast_add]
            rw [e1]
            refine go_max ?_
            exact k9 _ _ ⟨_, rfl, rfl, ln⟩
        · rintro _ _ ⟨m2, rfl, rfl, ln⟩
          try simp only [u_asg, u_gN, u_ret, u_retN, u_skip, u_expr, u_ifs, u_c, u_op, u_neg, u_test, u_and, u_or, u_not, u_if, u_nil, u_cons, u_tup, u_lst, u_callP, u_call, u_b, u_chain, u_andV, u_addI, u_subI, u_mulI, u_divI, u_modI, u_powI, u_cmpI, u_eqI, u_eqS, u_eqB, u_abs, u_intI, u_intB, u_newT, u_newF, u_isN, u_notN, wVar, List.set_cons_zero, List.set_cons_succ, List.getElem?_cons_zero, List.getElem?_cons_succ, List.length_cons, List.length_nil, u_lc, u_for, u_r1, u_r2, u_r3, u_num, u_notV, u_yes, u_w0, u_w1, u_dput, u_get2, u_dget, u_prop, u_fld, u_setF, u_make, u_makeS, u_met, u_calO, u_orT, u_tupIt, u_dc, u_maxDd, u_dnew, u_tupi, ix_p0, ix_p1, wSl, woNone, woSome]
          rw [ix_rep1]
          try simp only [u_asg, u_gN, u_ret, u_retN, u_skip, u_expr, u_ifs, u_c, u_op, u_neg, u_test, u_and, u_or, u_not, u_if, u_nil, u_cons, u_tup, u_lst, u_callP, u_call, u_b, u_chain, u_andV, u_addI, u_subI, u_mulI, u_divI, u_modI, u_powI, u_cmpI, u_eqI, u_eqS, u_eqB, u_abs, u_intI, u_intB, u_newT, u_newF, u_isN, u_notN, wVar, List.set_cons_zero, List.set_cons_succ, List.getElem?_cons_zero, List.getElem?_cons_succ, List.length_cons, List.length_nil, u_lc, u_for, u_r1, u_r2, u_r3, u_num, u_notV, u_yes, u_w0, u_w1, u_dput, u_get2, u_dget, u_prop, u_fld, u_setF, u_make, u_makeS, u_met, u_calO, u_orT, u_tupIt, u_dc, u_maxDd, u_dnew, u_tupi, ix_p0, ix_p1, wSl, woNone, woSome]
          have e2 : (t : Int) + (i : Int) * (bynB c : Nat) = ((t + bynA (.rep i c) : Nat) : Int) := by rw [bynA]; simp [Int.natCast_add]
          rw [e2]
          exact ⟨big_mul om.1, k _ _ ⟨r, _, _, _, _, _, rfl, rfl, rfl, or_, by omega, ln, by omega⟩⟩
      · rw [if_neg (by rw [decide_eq_false hr]; decide)]
        refine ⟨trivial, a, rfl, oa, ?_⟩
        try simp only [u_asg, u_gN, u_ret, u_retN, u_skip, u_expr, u_ifs, u_c, u_op, u_neg, u_test, u_and, u_or, u_not, u_if, u_nil, u_cons, u_tup, u_lst, u_callP, u_call, u_b, u_chain, u_andV, u_addI, u_subI, u_mulI, u_divI, u_modI, u_powI, u_cmpI, u_eqI, u_eqS, u_eqB, u_abs, u_intI, u_intB, u_newT, u_newF, u_isN, u_notN, wVar, List.set_cons_zero, List.set_cons_succ, List.getElem?_cons_zero, List.getElem?_cons_succ, List.length_cons, List.length_nil, u_lc, u_for, u_r1, u_r2, u_r3, u_num, u_notV, u_yes, u_w0, u_w1, u_dput, u_get2, u_dget, u_prop, u_fld, u_setF, u_make, u_makeS, u_met, u_calO, u_orT, u_tupIt, u_dc, u_maxDd, u_dnew, u_tupi, ix_p0, ix_p1, wSl, woNone, woSome]
        have e : (t : Int) + (byt a : Nat) = ((t + bynA a : Nat) : Int) := by rw [bynA_non hr]; omega
        rw [e]
        refine k _ _ ⟨r, _, _, _, _, _, rfl, rfl, rfl, or_, by omega, ?_, by omega⟩
        rw [← ln]
        cases a with
        | bare w => rw [rchA]
        | write i => rw [rchA]
        | fork c => exact absurd rfl hf
        | rep i c => exact absurd rfl hr
  · rintro _ _ ⟨b2, t, m, a3, a4, a5, hl, rfl, rfl, ok2, dp2, ln, lb⟩
    obtain rfl := encs_nil hl
    try simp only [u_asg, u_gN, u_ret, u_retN, u_skip, u_expr, u_ifs, u_c, u_op, u_neg, u_test, u_and, u_or, u_not, u_if, u_nil, u_cons, u_tup, u_lst, u_callP, u_call, u_b, u_chain, u_andV, u_addI, u_subI, u_mulI, u_divI, u_modI, u_powI, u_cmpI, u_eqI, u_eqS, u_eqB, u_abs, u_intI, u_intB, u_newT, u_newF, u_isN, u_notN, wVar, List.set_cons_zero, List.set_cons_succ, List.getElem?_cons_zero, List.getElem?_cons_succ, List.length_cons, List.length_nil, u_lc, u_for, u_r1, u_r2, u_r3, u_num, u_notV, u_yes, u_w0, u_w1, u_dput, u_get2, u_dget, u_prop, u_fld, u_setF, u_make, u_makeS, u_met, u_calO, u_orT, u_tupIt, u_dc, u_maxDd, u_dnew, u_tupi, ix_p0, ix_p1, wSl, woNone, woSome]
    refine go_max ⟨by decide, fin_of ?_⟩
    rw [rchL] at ln
    rw [bynB, Nat.add_zero] at lb
    rw [ln, lb]
    exact q
theorem p__law_fitting (z : Ad) : ∀ ds h Q X, S__law_fitting z ds h Q X → w__law_fitting z (endsD Q X) (startD 4 ds) h := by
  rintro ds h Q X ⟨b, p, r, rfl, ok, dp, len, q⟩
  show w__law_fitting z (endsD Q X) [some (.tup (encs b)), some (.int (p : Nat)), some (.int (r : Nat)), none] h
  unfold w__law_fitting
  ((try dsimp only); rw [u_seq]; (try simp only [u_asg, u_gN, u_ret, u_retN, u_skip, u_expr, u_ifs, u_c, u_op, u_neg, u_test, u_and, u_or, u_not, u_if, u_nil, u_cons, u_tup, u_lst, u_callP, u_call, u_b, u_chain, u_andV, u_addI, u_subI, u_mulI, u_divI, u_modI, u_powI, u_cmpI, u_eqI, u_eqS, u_eqB, u_abs, u_intI, u_intB, u_newT, u_newF, u_isN, u_notN, wVar, List.set_cons_zero, List.set_cons_succ, List.getElem?_cons_zero, List.getElem?_cons_succ, List.length_cons, List.length_nil, u_lc, u_for, u_r1, u_r2, u_r3, u_num, u_notV, u_yes, u_w0, u_w1, u_dput, u_get2, u_dget, u_prop, u_fld, u_setF, u_make, u_makeS, u_met, u_calO, u_orT, u_tupIt, u_dc, u_maxDd, u_dnew, u_tupi, ix_p0, ix_p1, wSl, woNone, woSome]))
  rw [u_lenT]
  try simp only [u_asg, u_gN, u_ret, u_retN, u_skip, u_expr, u_ifs, u_c, u_op, u_neg, u_test, u_and, u_or, u_not, u_if, u_nil, u_cons, u_tup, u_lst, u_callP, u_call, u_b, u_chain, u_andV, u_addI, u_subI, u_mulI, u_divI, u_modI, u_powI, u_cmpI, u_eqI, u_eqS, u_eqB, u_abs, u_intI, u_intB, u_newT, u_newF, u_isN, u_notN, wVar, List.set_cons_zero, List.set_cons_succ, List.getElem?_cons_zero, List.getElem?_cons_succ, List.length_cons, List.length_nil, u_lc, u_for, u_r1, u_r2, u_r3, u_num, u_notV, u_yes, u_w0, u_w1, u_dput, u_get2, u_dget, u_prop, u_fld, u_setF, u_make, u_makeS, u_met, u_calO, u_orT, u_tupIt, u_dc, u_maxDd, u_dnew, u_tupi, ix_p0, ix_p1, wSl, woNone, woSome]
  refine ⟨by rw [encs_len]; omega, by rw [encs_len]; omega, ?_⟩
  rw [Int.toNat_natCast, encs_len]
  refine loop_go (fun i ρ h' => ∃ m a3, ρ = [some (.tup (encs (b.take m))), some (.int (p : Nat)), some (.int (r : Nat)), a3] ∧ h = h' ∧ m ≤ b.length ∧ ((sizB (b.take m) ≤ p ∧ rchB (b.take m) ≤ r) ∨ m + i ≤ b.length))
    ⟨b.length, _, by rw [List.take_length], rfl, Nat.le_refl _, .inr (by omega)⟩ (fun _ _ _ _ => trivial) ?_ ?_
  · rintro i x _ _ K hi ⟨m, a3, rfl, rfl, lm, hm⟩ k
    have ok2 := okB_tk ok m
    have dp2 := dptB_tk (b := b) m
    rw [u_gN]
    dsimp only [List.set_cons_zero, List.set_cons_succ]
    try simp only [u_asg, u_gN, u_ret, u_retN, u_skip, u_expr, u_ifs, u_c, u_op, u_neg, u_test, u_and, u_or, u_not, u_if, u_nil, u_cons, u_tup, u_lst, u_callP, u_call, u_b, u_chain, u_andV, u_addI, u_subI, u_mulI, u_divI, u_modI, u_powI, u_cmpI, u_eqI, u_eqS, u_eqB, u_abs, u_intI, u_intB, u_newT, u_newF, u_isN, u_notN, wVar, List.set_cons_zero, List.set_cons_succ, List.getElem?_cons_zero, List.getElem?_cons_succ, List.length_cons, List.length_nil, u_lc, u_for, u_r1, u_r2, u_r3, u_num, u_notV, u_yes, u_w0, u_w1, u_dput, u_get2, u_dget, u_prop, u_fld, u_setF, u_make, u_makeS, u_met, u_calO, u_orT, u_tupIt, u_dc, u_maxDd, u_dnew, u_tupi, ix_p0, ix_p1, wSl, woNone, woSome]
    refine ⟨trivial, _, rfl, ok2, by omega, ?_⟩
    try simp only [u_asg, u_gN, u_ret, u_retN, u_skip, u_expr, u_ifs, u_c, u_op, u_neg, u_test, u_and, u_or, u_not, u_if, u_nil, u_cons, u_tup, u_lst, u_callP, u_call, u_b, u_chain, u_andV, u_addI, u_subI, u_mulI, u_divI, u_modI, u_powI, u_cmpI, u_eqI, u_eqS, u_eqB, u_abs, u_intI, u_intB, u_newT, u_newF, u_isN, u_notN, wVar, List.set_cons_zero, List.set_cons_succ, List.getElem?_cons_zero, List.getElem?_cons_succ, List.length_cons, List.length_nil, u_lc, u_for, u_r1, u_r2, u_r3, u_num, u_notV, u_yes, u_w0, u_w1, u_dput, u_get2, u_dget, u_prop, u_fld, u_setF, u_make, u_makeS, u_met, u_calO, u_orT, u_tupIt, u_dc, u_maxDd, u_dnew, u_tupi, ix_p0, ix_p1, wSl, woNone, woSome]
    have less : ¬ (sizB (b.take m) ≤ p ∧ rchB (b.take m) ≤ r) → K [some (.tup (cutD (encs (b.take m)) none (some (-1)))), some (.int (p : Nat)), some (.int (r : Nat)), some x] h := fun no => by
      refine k _ _ ⟨m - 1, some x, ?_, rfl, by omega, ?_⟩
      · rw [cut_lastq, encs_tk, tk_len lm]
      · rcases hm with hm | hm
        · exact absurd hm no
        · rcases Nat.eq_zero_or_pos m with e | e
          · subst e
            refine .inl ?_
            rw [List.take_zero, sizB, rchB, rchL]
            exact ⟨Nat.zero_le _, Nat.zero_le _⟩
          · exact .inr (by omega)
    by_cases c1 : (p : Int) < ((sizB (b.take m) : Nat) : Int)
    · rw [decide_eq_true c1]
      try simp only [if_true]
      try simp only [wSl, woNone, woSome, dSl, u_asg, u_gN, u_ret, u_retN, u_skip, u_expr, u_ifs, u_c, u_op, u_neg, u_test, u_and, u_or, u_not, u_if, u_nil, u_cons, u_tup, u_lst, u_callP, u_call, u_b, u_chain, u_andV, u_addI, u_subI, u_mulI, u_divI, u_modI, u_powI, u_cmpI, u_eqI, u_eqS, u_eqB, u_abs, u_intI, u_intB, u_newT, u_newF, u_isN, u_notN, wVar, List.set_cons_zero, List.set_cons_succ, List.getElem?_cons_zero, List.getElem?_cons_succ, List.length_cons, List.length_nil, u_lc, u_for, u_r1, u_r2, u_r3, u_num, u_notV, u_yes, u_w0, u_w1, u_dput, u_get2, u_dget, u_prop, u_fld, u_setF, u_make, u_makeS, u_met, u_calO, u_orT, u_tupIt, u_dc, u_maxDd, u_dnew, u_tupi, ix_p0, ix_p1, wSl, woNone, woSome]
      exact less (by omega)
    · rw [decide_eq_false c1]
      simp only [Bool.false_eq_true, if_false]
      refine ⟨trivial, _, rfl, ok2, by omega, ?_⟩
      dsimp only
      rw [u_ixTd at1]
      try simp only [u_asg, u_gN, u_ret, u_retN, u_skip, u_expr, u_ifs, u_c, u_op, u_neg, u_test, u_and, u_or, u_not, u_if, u_nil, u_cons, u_tup, u_lst, u_callP, u_call, u_b, u_chain, u_andV, u_addI, u_subI, u_mulI, u_divI, u_modI, u_powI, u_cmpI, u_eqI, u_eqS, u_eqB, u_abs, u_intI, u_intB, u_newT, u_newF, u_isN, u_notN, wVar, List.set_cons_zero, List.set_cons_succ, List.getElem?_cons_zero, List.getElem?_cons_succ, List.length_cons, List.length_nil, u_lc, u_for, u_r1, u_r2, u_r3, u_num, u_notV, u_yes, u_w0, u_w1, u_dput, u_get2, u_dget, u_prop, u_fld, u_setF, u_make, u_makeS, u_met, u_calO, u_orT, u_tupIt, u_dc, u_maxDd, u_dnew, u_tupi, ix_p0, ix_p1, wSl, woNone, woSome]
      by_cases c2 : (r : Int) < ((rchB (b.take m) : Nat) : Int)
      · rw [decide_eq_true c2]
        try simp only [if_true]
        try simp only [wSl, woNone, woSome, dSl, u_asg, u_gN, u_ret, u_retN, u_skip, u_expr, u_ifs, u_c, u_op, u_neg, u_test, u_and, u_or, u_not, u_if, u_nil, u_cons, u_tup, u_lst, u_callP, u_call, u_b, u_chain, u_andV, u_addI, u_subI, u_mulI, u_divI, u_modI, u_powI, u_cmpI, u_eqI, u_eqS, u_eqB, u_abs, u_intI, u_intB, u_newT, u_newF, u_isN, u_notN, wVar, List.set_cons_zero, List.set_cons_succ, List.getElem?_cons_zero, List.getElem?_cons_succ, List.length_cons, List.length_nil, u_lc, u_for, u_r1, u_r2, u_r3, u_num, u_notV, u_yes, u_w0, u_w1, u_dput, u_get2, u_dget, u_prop, u_fld, u_setF, u_make, u_makeS, u_met, u_calO, u_orT, u_tupIt, u_dc, u_maxDd, u_dnew, u_tupi, ix_p0, ix_p1, wSl, woNone, woSome]
        exact less (by omega)
      · rw [decide_eq_false c2]
        simp only [Bool.false_eq_true, if_false]
        try simp only [u_asg, u_gN, u_ret, u_retN, u_skip, u_expr, u_ifs, u_c, u_op, u_neg, u_test, u_and, u_or, u_not, u_if, u_nil, u_cons, u_tup, u_lst, u_callP, u_call, u_b, u_chain, u_andV, u_addI, u_subI, u_mulI, u_divI, u_modI, u_powI, u_cmpI, u_eqI, u_eqS, u_eqB, u_abs, u_intI, u_intB, u_newT, u_newF, u_isN, u_notN, wVar, List.set_cons_zero, List.set_cons_succ, List.getElem?_cons_zero, List.getElem?_cons_succ, List.length_cons, List.length_nil, u_lc, u_for, u_r1, u_r2, u_r3, u_num, u_notV, u_yes, u_w0, u_w1, u_dput, u_get2, u_dget, u_prop, u_fld, u_setF, u_make, u_makeS, u_met, u_calO, u_orT, u_tupIt, u_dc, u_maxDd, u_dnew, u_tupi, ix_p0, ix_p1, wSl, woNone, woSome]
        exact k _ _ ⟨m, _, rfl, rfl, lm, .inl (by omega)⟩
  · rintro _ _ ⟨m, a3, rfl, rfl, lm, hm⟩
    try simp only [u_asg, u_gN, u_ret, u_retN, u_skip, u_expr, u_ifs, u_c, u_op, u_neg, u_test, u_and, u_or, u_not, u_if, u_nil, u_cons, u_tup, u_lst, u_callP, u_call, u_b, u_chain, u_andV, u_addI, u_subI, u_mulI, u_divI, u_modI, u_powI, u_cmpI, u_eqI, u_eqS, u_eqB, u_abs, u_intI, u_intB, u_newT, u_newF, u_isN, u_notN, wVar, List.set_cons_zero, List.set_cons_succ, List.getElem?_cons_zero, List.getElem?_cons_succ, List.length_cons, List.length_nil, u_lc, u_for, u_r1, u_r2, u_r3, u_num, u_notV, u_yes, u_w0, u_w1, u_dput, u_get2, u_dget, u_prop, u_fld, u_setF, u_make, u_makeS, u_met, u_calO, u_orT, u_tupIt, u_dc, u_maxDd, u_dnew, u_tupi, ix_p0, ix_p1, wSl, woNone, woSome]
    rw [intsD_len] at hm
    rcases hm with hm | hm
    · exact fin_of (q m hm.1 hm.2)
    · obtain rfl : m = 0 := by omega
      refine fin_of (q 0 ?_ ?_)
      · rw [List.take_zero, sizB]; exact Nat.zero_le _
      · rw [List.take_zero, rchB, rchL]; exact Nat.zero_le _
theorem p__law_job (z : Ad) : ∀ ds h Q X, S__law_job z ds h Q X → w__law_job z (endsD Q X) (startD 1 ds) h := by
  rintro ds h Q X ⟨c, p, rfl, I, hn, q⟩
  show w__law_job z (endsD Q X) [some (.ref p)] h
  replace I := Inv0.start I
  unfold w__law_job
  try simp only [u_asg, u_gN, u_ret, u_retN, u_skip, u_expr, u_ifs, u_c, u_op, u_neg, u_test, u_and, u_or, u_not, u_if, u_nil, u_cons, u_tup, u_lst, u_callP, u_call, u_b, u_chain, u_andV, u_addI, u_subI, u_mulI, u_divI, u_modI, u_powI, u_cmpI, u_eqI, u_eqS, u_eqB, u_abs, u_intI, u_intB, u_newT, u_newF, u_isN, u_notN, wVar, List.set_cons_zero, List.set_cons_succ, List.getElem?_cons_zero, List.getElem?_cons_succ, List.length_cons, List.length_nil, u_lc, u_for, u_r1, u_r2, u_r3, u_num, u_notV, u_yes, u_w0, u_w1, u_dput, u_get2, u_dget, u_prop, u_fld, u_setF, u_make, u_makeS, u_met, u_calO, u_orT, u_tupIt, u_dc, u_maxDd, u_dnew, u_tupi, ix_p0, ix_p1, wSl, woNone, woSome]
  refine ⟨trivial, c, p, rfl, I.pen, by omega, fun ws o hw po => ?_⟩
  replace I := I.draw po
  generalize up h p o = g1 at I ⊢
  have e2 : 6 * aN 2 = 288 := by decide
  refine ⟨trivial, c + 1, p, 2, ws, 6, rfl, I.pen, by omega, hw, by decide, by decide, by decide, fun b o hb po => ?_⟩
  replace I := I.draw po
  generalize up g1 p o = g1 at I ⊢
  refine ⟨trivial, b, 900, 400, rfl, hb.ok, by have := hb.dpt; omega, by have := hb.len; omega, fun k h1 h2 => ?_⟩
  obtain ⟨o', s1, s2⟩ := I.sub
  refine fin_sub s2 (q (b.take k) o' ⟨⟨okB_tk hb.ok k, ?_, Nat.le_trans (dptB_tk k) hb.dpt, Nat.le_trans (cntB_tk k) hb.cnt, Nat.le_trans (bigB_tk k) hb.big⟩, h1, h2⟩ (s1.mono (by omega)))
  have := hb.len
  rw [List.length_take]; omega
end F1
namespace F1
open PySem PySem.Spec L2 C8 DL PK

theorem sub_fresh {g h : AH} {f : Addr} (s : Sub g h) (e : h f = none) : g f = none := by
  cases c : g f with
  | none => rfl
  | some o => rw [s _ _ c] at e; cases e
theorem sub_put {g h : AH} {f : Addr} {o : AO} (s : Sub g h) (e : g f = none) : Sub g (up h f o) := fun a u q => by
  rw [up_ne (by rintro rfl; rw [e] at q; cases q)]; exact s a u q
theorem p__law_flat (z : Ad) (n : Nat) : ∀ ds h Q X, S__law_flat z (n + 1) ds h Q X → w__law_flat z n (endsD Q X) (startD 3 ds) h := by
  rintro ds h Q X ⟨b, rfl, ok, dp, bg, q⟩
  show w__law_flat z n (endsD Q X) [some (.tup (encs b)), none, none] h
  unfold w__law_flat
  ((try dsimp only); rw [u_seq]; (try simp only [u_asg, u_gN, u_ret, u_retN, u_skip, u_expr, u_ifs, u_c, u_op, u_neg, u_test, u_and, u_or, u_not, u_if, u_nil, u_cons, u_tup, u_lst, u_callP, u_call, u_b, u_chain, u_andV, u_addI, u_subI, u_mulI, u_divI, u_modI, u_powI, u_cmpI, u_eqI, u_eqS, u_eqB, u_abs, u_intI, u_intB, u_newT, u_newF, u_isN, u_notN, wVar, List.set_cons_zero, List.set_cons_succ, List.getElem?_cons_zero, List.getElem?_cons_succ, List.length_cons, List.length_nil, u_lc, u_for, u_r1, u_r2, u_r3, u_num, u_notV, u_yes, u_w0, u_w1, u_dput, u_get2, u_dget, u_prop, u_fld, u_setF, u_make, u_makeS, u_met, u_calO, u_orT, u_tupIt, u_dc, u_maxDd, u_dnew, u_tupi, ix_p0, ix_p1, wSl, woNone, woSome]))
  refine ⟨Nat.zero_le _, fun f hf => ?_⟩
  ((try dsimp only); rw [u_seq]; (try simp only [u_asg, u_gN, u_ret, u_retN, u_skip, u_expr, u_ifs, u_c, u_op, u_neg, u_test, u_and, u_or, u_not, u_if, u_nil, u_cons, u_tup, u_lst, u_callP, u_call, u_b, u_chain, u_andV, u_addI, u_subI, u_mulI, u_divI, u_modI, u_powI, u_cmpI, u_eqI, u_eqS, u_eqB, u_abs, u_intI, u_intB, u_newT, u_newF, u_isN, u_notN, wVar, List.set_cons_zero, List.set_cons_succ, List.getElem?_cons_zero, List.getElem?_cons_succ, List.length_cons, List.length_nil, u_lc, u_for, u_r1, u_r2, u_r3, u_num, u_notV, u_yes, u_w0, u_w1, u_dput, u_get2, u_dget, u_prop, u_fld, u_setF, u_make, u_makeS, u_met, u_calO, u_orT, u_tupIt, u_dc, u_maxDd, u_dnew, u_tupi, ix_p0, ix_p1, wSl, woNone, woSome]))
  refine loop_rest (fun l ρ h' => ∃ b2 f fs a2, l = encs b2 ∧ ρ = [some (.tup (encs b)), some (.ref f), a2] ∧ Sub h h' ∧ h f = none ∧ h' f = some (.lst fs) ∧ okB b2 = true ∧ dptB b2 ≤ dptB b ∧ fs.length + bigB b2 ≤ bigB b ∧ fs ++ encs (unrB b2) = encs (unrB b)) (fun _ _ _ _ => trivial) ?_ ?_ _ _ _
    ⟨b, f, [], _, rfl, rfl, sub_up hf, hf, up_same, ok, Nat.le_refl _, by simp, rfl⟩
  · rintro x l _ g K ⟨b2, f, fs, a2, hl, rfl, sb, hf0, hf1, ok2, dp2, ln, eq⟩ k
    obtain ⟨a, r, rfl, rfl, rfl⟩ := encs_cons hl
    obtain ⟨oa, or_⟩ := okB_cons ok2
    rw [dptB] at dp2
    rw [bigB] at ln
    rw [unrB, encs_app] at eq
    rw [u_gN]
    dsimp only [List.set_cons_zero, List.set_cons_succ]
    try simp only [u_asg, u_gN, u_ret, u_retN, u_skip, u_expr, u_ifs, u_c, u_op, u_neg, u_test, u_and, u_or, u_not, u_if, u_nil, u_cons, u_tup, u_lst, u_callP, u_call, u_b, u_chain, u_andV, u_addI, u_subI, u_mulI, u_divI, u_modI, u_powI, u_cmpI, u_eqI, u_eqS, u_eqB, u_abs, u_intI, u_intB, u_newT, u_newF, u_isN, u_notN, wVar, List.set_cons_zero, List.set_cons_succ, List.getElem?_cons_zero, List.getElem?_cons_succ, List.length_cons, List.length_nil, u_lc, u_for, u_r1, u_r2, u_r3, u_num, u_notV, u_yes, u_w0, u_w1, u_dput, u_get2, u_dget, u_prop, u_fld, u_setF, u_make, u_makeS, u_met, u_calO, u_orT, u_tupIt, u_dc, u_maxDd, u_dnew, u_tupi, ix_p0, ix_p1, wSl, woNone, woSome]
    rw [ix_word]
    try simp only [u_asg, u_gN, u_ret, u_retN, u_skip, u_expr, u_ifs, u_c, u_op, u_neg, u_test, u_and, u_or, u_not, u_if, u_nil, u_cons, u_tup, u_lst, u_callP, u_call, u_b, u_chain, u_andV, u_addI, u_subI, u_mulI, u_divI, u_modI, u_powI, u_cmpI, u_eqI, u_eqS, u_eqB, u_abs, u_intI, u_intB, u_newT, u_newF, u_isN, u_notN, wVar, List.set_cons_zero, List.set_cons_succ, List.getElem?_cons_zero, List.getElem?_cons_succ, List.length_cons, List.length_nil, u_lc, u_for, u_r1, u_r2, u_r3, u_num, u_notV, u_yes, u_w0, u_w1, u_dput, u_get2, u_dget, u_prop, u_fld, u_setF, u_make, u_makeS, u_met, u_calO, u_orT, u_tupIt, u_dc, u_maxDd, u_dnew, u_tupi, ix_p0, ix_p1, wSl, woNone, woSome]
    by_cases hr : word a = "repeat"
    · rw [if_pos (decide_eq_true hr)]
      obtain ⟨m, c, rfl⟩ := (word_rep oa).mp hr
      have om := oa
      rw [okA, Bool.and_eq_true, decide_eq_true_iff] at om
      rw [dptA] at dp2
      rw [bigA] at ln
      have bc : bigB c ≤ (m + 1) * bigB c := Nat.le_mul_of_pos_left _ (by omega)
      have uc := unrB_len c
      have mc : m * (unrB c).length ≤ (m + 1) * bigB c := Nat.mul_le_mul (Nat.le_succ m) uc
      rw [ix_rep2]
      refine ⟨trivial, c, rfl, om.2, by omega, by omega, _, _, rfl, rfl, ?_⟩
      rw [u_newF]
      rw [ix_rep1]
      have mc2 : (encs (unrB c)).length * ((m : Nat) : Int).toNat ≤ 100000 := by
        rw [encs_len, Int.toNat_natCast, Nat.mul_comm]; omega
      refine ⟨_, rfl, by omega, by omega, sz_le mc2, ?_⟩
      rw [u_newF]
      rw [Int.toNat_natCast]
      have ll : fs.length + (List.replicate m (encs (unrB c))).flatten.length ≤ 100000 := by rw [flat_len, encs_len]; omega
      refine ⟨fs, _, lst_ref hf1, rfl, sz_le ll, ?_⟩
      rw [u_newT]
      intro f2 hf2
      refine k _ _ ⟨r, f2, _, _, rfl, rfl, fun x o e => sub_up hf2 _ _ (sb _ _ e), sub_fresh sb hf2, up_same, or_, by omega, ?_, ?_⟩
      · rw [List.length_append, flat_len, encs_len]; omega
      · rw [← eq, unrA, encs_rep, List.append_assoc]
    · rw [if_neg (by rw [decide_eq_false hr]; decide)]
      have b1 := bigA_pos hr
      simp only [wMethT, u_asg, u_gN, u_ret, u_retN, u_skip, u_expr, u_ifs, u_c, u_op, u_neg, u_test, u_and, u_or, u_not, u_if, u_nil, u_cons, u_tup, u_lst, u_callP, u_call, u_b, u_chain, u_andV, u_addI, u_subI, u_mulI, u_divI, u_modI, u_powI, u_cmpI, u_eqI, u_eqS, u_eqB, u_abs, u_intI, u_intB, u_newT, u_newF, u_isN, u_notN, wVar, List.set_cons_zero, List.set_cons_succ, List.getElem?_cons_zero, List.getElem?_cons_succ, List.length_cons, List.length_nil, u_lc, u_for, u_r1, u_r2, u_r3, u_num, u_notV, u_yes, u_w0, u_w1, u_dput, u_get2, u_dget, u_prop, u_fld, u_setF, u_make, u_makeS, u_met, u_calO, u_orT, u_tupIt, u_dc, u_maxDd, u_dnew, u_tupi, ix_p0, ix_p1, wSl, woNone, woSome]
      refine ⟨⟨_, lst_ref hf1⟩, ?_⟩
      rw [ix_word]
      try simp only [u_asg, u_gN, u_ret, u_retN, u_skip, u_expr, u_ifs, u_c, u_op, u_neg, u_test, u_and, u_or, u_not, u_if, u_nil, u_cons, u_tup, u_lst, u_callP, u_call, u_b, u_chain, u_andV, u_addI, u_subI, u_mulI, u_divI, u_modI, u_powI, u_cmpI, u_eqI, u_eqS, u_eqB, u_abs, u_intI, u_intB, u_newT, u_newF, u_isN, u_notN, wVar, List.set_cons_zero, List.set_cons_succ, List.getElem?_cons_zero, List.getElem?_cons_succ, List.length_cons, List.length_nil, u_lc, u_for, u_r1, u_r2, u_r3, u_num, u_notV, u_yes, u_w0, u_w1, u_dput, u_get2, u_dget, u_prop, u_fld, u_setF, u_make, u_makeS, u_met, u_calO, u_orT, u_tupIt, u_dc, u_maxDd, u_dnew, u_tupi, ix_p0, ix_p1, wSl, woNone, woSome]
      by_cases hf2 : word a = "fork"
      · rw [if_pos (decide_eq_true hf2)]
        obtain ⟨c, rfl⟩ := (word_fork oa).mp hf2
        rw [okA] at oa
        rw [dptA] at dp2
        rw [bigA] at ln
        rw [ix_fork1]
        refine ⟨trivial, c, rfl, oa, by omega, by omega, by decide, f, fs, _, rfl, rfl, hf1, sz_le (n := fs.length + 1) (by omega), ?_⟩
        refine k _ _ ⟨r, f, _, _, rfl, rfl, sub_put sb hf0, hf0, up_same, or_, by omega, ?_, ?_⟩
        · simp; omega
        · rw [← eq, unrA, encs, encs, enc]; simp
      · rw [if_neg (by rw [decide_eq_false hf2]; decide)]
        refine ⟨f, fs, _, rfl, rfl, hf1, sz_le (n := fs.length + 1) (by omega), ?_⟩
        refine k _ _ ⟨r, f, _, _, rfl, rfl, sub_put sb hf0, hf0, up_same, or_, by omega, ?_, ?_⟩
        · simp; omega
        · rw [← eq, unrA_non hr hf2, encs, encs]; simp
  · rintro _ g ⟨b2, f, fs, a2, hl, rfl, sb, hf0, hf1, ok2, dp2, ln, eq⟩
    obtain rfl := encs_nil hl
    try simp only [u_asg, u_gN, u_ret, u_retN, u_skip, u_expr, u_ifs, u_c, u_op, u_neg, u_test, u_and, u_or, u_not, u_if, u_nil, u_cons, u_tup, u_lst, u_callP, u_call, u_b, u_chain, u_andV, u_addI, u_subI, u_mulI, u_divI, u_modI, u_powI, u_cmpI, u_eqI, u_eqS, u_eqB, u_abs, u_intI, u_intB, u_newT, u_newF, u_isN, u_notN, wVar, List.set_cons_zero, List.set_cons_succ, List.getElem?_cons_zero, List.getElem?_cons_succ, List.length_cons, List.length_nil, u_lc, u_for, u_r1, u_r2, u_r3, u_num, u_notV, u_yes, u_w0, u_w1, u_dput, u_get2, u_dget, u_prop, u_fld, u_setF, u_make, u_makeS, u_met, u_calO, u_orT, u_tupIt, u_dc, u_maxDd, u_dnew, u_tupi, ix_p0, ix_p1, wSl, woNone, woSome]
    rw [unrB, encs, List.append_nil] at eq
    refine ⟨_, _, rfl, seq_ref hf1, ?_⟩
    rw [eq]
    exact fin_sub sb q
theorem wrdA_inn {a : Ac} : wrdA a = word a :: wrdB (inn a) := by cases a <;> rw [wrdA, word, inn] <;> first | rfl | rw [wrdB]
theorem wrdB_len : ∀ b : List Ac, (wrdB b).length = cntB b := fun b => by rw [← wrdB_wlk b [] 0, List.length_map, wlkB_len]
theorem at_last1 {x y : D} : atI [x, y] (-1) = some y := rfl
theorem at_last2 {x y u : D} : atI [x, y, u] (-1) = some u := rfl
theorem p__law_all_words (z : Ad) (n : Nat) : ∀ ds h Q X, S__law_all_words z (n + 1) ds h Q X → w__law_all_words z n (endsD Q X) (startD 3 ds) h := by
  rintro ds h Q X ⟨b, rfl, ok, dp, bg, q⟩
  show w__law_all_words z n (endsD Q X) [some (.tup (encs b)), none, none] h
  unfold w__law_all_words
  ((try dsimp only); rw [u_seq]; (try simp only [u_asg, u_gN, u_ret, u_retN, u_skip, u_expr, u_ifs, u_c, u_op, u_neg, u_test, u_and, u_or, u_not, u_if, u_nil, u_cons, u_tup, u_lst, u_callP, u_call, u_b, u_chain, u_andV, u_addI, u_subI, u_mulI, u_divI, u_modI, u_powI, u_cmpI, u_eqI, u_eqS, u_eqB, u_abs, u_intI, u_intB, u_newT, u_newF, u_isN, u_notN, wVar, List.set_cons_zero, List.set_cons_succ, List.getElem?_cons_zero, List.getElem?_cons_succ, List.length_cons, List.length_nil, u_lc, u_for, u_r1, u_r2, u_r3, u_num, u_notV, u_yes, u_w0, u_w1, u_dput, u_get2, u_dget, u_prop, u_fld, u_setF, u_make, u_makeS, u_met, u_calO, u_orT, u_tupIt, u_dc, u_maxDd, u_dnew, u_tupi, ix_p0, ix_p1, wSl, woNone, woSome]))
  refine ⟨Nat.zero_le _, fun f hf => ?_⟩
  ((try dsimp only); rw [u_seq]; (try simp only [u_asg, u_gN, u_ret, u_retN, u_skip, u_expr, u_ifs, u_c, u_op, u_neg, u_test, u_and, u_or, u_not, u_if, u_nil, u_cons, u_tup, u_lst, u_callP, u_call, u_b, u_chain, u_andV, u_addI, u_subI, u_mulI, u_divI, u_modI, u_powI, u_cmpI, u_eqI, u_eqS, u_eqB, u_abs, u_intI, u_intB, u_newT, u_newF, u_isN, u_notN, wVar, List.set_cons_zero, List.set_cons_succ, List.getElem?_cons_zero, List.getElem?_cons_succ, List.length_cons, List.length_nil, u_lc, u_for, u_r1, u_r2, u_r3, u_num, u_notV, u_yes, u_w0, u_w1, u_dput, u_get2, u_dget, u_prop, u_fld, u_setF, u_make, u_makeS, u_met, u_calO, u_orT, u_tupIt, u_dc, u_maxDd, u_dnew, u_tupi, ix_p0, ix_p1, wSl, woNone, woSome]))
  refine loop_rest (fun l ρ h' => ∃ b2 f ws a2, l = encs b2 ∧ ρ = [some (.tup (encs b)), some (.ref f), a2] ∧ Sub h h' ∧ h f = none ∧ h' f = some (.lst (ws.map .str)) ∧ okB b2 = true ∧ dptB b2 ≤ dptB b ∧ ws.length + cntB b2 ≤ cntB b ∧ ws ++ wrdB b2 = wrdB b) (fun _ _ _ _ => trivial) ?_ ?_ _ _ _
    ⟨b, f, [], _, rfl, rfl, sub_up hf, hf, up_same, ok, Nat.le_refl _, by simp, rfl⟩
  · rintro x l _ g K ⟨b2, f, ws, a2, hl, rfl, sb, hf0, hf1, ok2, dp2, ln, eq⟩ k
    obtain ⟨a, r, rfl, rfl, rfl⟩ := encs_cons hl
    obtain ⟨oa, or_⟩ := okB_cons ok2
    have ci := cnt_inn (a := a)
    have di := dpt_inn (a := a)
    rw [dptB] at dp2
    rw [cntB] at ln
    rw [wrdB, wrdA_inn] at eq
    rw [u_gN]
    dsimp only [List.set_cons_zero, List.set_cons_succ]
    ((try dsimp only); rw [u_seq]; (try simp only [u_asg, u_gN, u_ret, u_retN, u_skip, u_expr, u_ifs, u_c, u_op, u_neg, u_test, u_and, u_or, u_not, u_if, u_nil, u_cons, u_tup, u_lst, u_callP, u_call, u_b, u_chain, u_andV, u_addI, u_subI, u_mulI, u_divI, u_modI, u_powI, u_cmpI, u_eqI, u_eqS, u_eqB, u_abs, u_intI, u_intB, u_newT, u_newF, u_isN, u_notN, wVar, List.set_cons_zero, List.set_cons_succ, List.getElem?_cons_zero, List.getElem?_cons_succ, List.length_cons, List.length_nil, u_lc, u_for, u_r1, u_r2, u_r3, u_num, u_notV, u_yes, u_w0, u_w1, u_dput, u_get2, u_dget, u_prop, u_fld, u_setF, u_make, u_makeS, u_met, u_calO, u_orT, u_tupIt, u_dc, u_maxDd, u_dnew, u_tupi, ix_p0, ix_p1, wSl, woNone, woSome]))
    simp only [wMethT, u_asg, u_gN, u_ret, u_retN, u_skip, u_expr, u_ifs, u_c, u_op, u_neg, u_test, u_and, u_or, u_not, u_if, u_nil, u_cons, u_tup, u_lst, u_callP, u_call, u_b, u_chain, u_andV, u_addI, u_subI, u_mulI, u_divI, u_modI, u_powI, u_cmpI, u_eqI, u_eqS, u_eqB, u_abs, u_intI, u_intB, u_newT, u_newF, u_isN, u_notN, wVar, List.set_cons_zero, List.set_cons_succ, List.getElem?_cons_zero, List.getElem?_cons_succ, List.length_cons, List.length_nil, u_lc, u_for, u_r1, u_r2, u_r3, u_num, u_notV, u_yes, u_w0, u_w1, u_dput, u_get2, u_dget, u_prop, u_fld, u_setF, u_make, u_makeS, u_met, u_calO, u_orT, u_tupIt, u_dc, u_maxDd, u_dnew, u_tupi, ix_p0, ix_p1, wSl, woNone, woSome]
    refine ⟨⟨_, lst_ref hf1⟩, ?_⟩
    rw [ix_word]
    refine ⟨f, ws.map .str, _, rfl, rfl, hf1, sz_le (n := (ws.map D.str).length + 1) (by rw [List.length_map]; omega), ?_⟩
    rw [show ws.map D.str ++ [D.str (word a)] = (ws ++ [word a]).map D.str by rw [List.map_append]; rfl]
    have sb2 := sub_put (o := .lst ((ws ++ [word a]).map D.str)) sb hf0
    have hf2 : (up g f (.lst ((ws ++ [word a]).map D.str))) f = some (.lst ((ws ++ [word a]).map D.str)) := up_same
    generalize up g f (.lst ((ws ++ [word a]).map D.str)) = g at sb2 hf2 ⊢
    try simp only [u_asg, u_gN, u_ret, u_retN, u_skip, u_expr, u_ifs, u_c, u_op, u_neg, u_test, u_and, u_or, u_not, u_if, u_nil, u_cons, u_tup, u_lst, u_callP, u_call, u_b, u_chain, u_andV, u_addI, u_subI, u_mulI, u_divI, u_modI, u_powI, u_cmpI, u_eqI, u_eqS, u_eqB, u_abs, u_intI, u_intB, u_newT, u_newF, u_isN, u_notN, wVar, List.set_cons_zero, List.set_cons_succ, List.getElem?_cons_zero, List.getElem?_cons_succ, List.length_cons, List.length_nil, u_lc, u_for, u_r1, u_r2, u_r3, u_num, u_notV, u_yes, u_w0, u_w1, u_dput, u_get2, u_dget, u_prop, u_fld, u_setF, u_make, u_makeS, u_met, u_calO, u_orT, u_tupIt, u_dc, u_maxDd, u_dnew, u_tupi, ix_p0, ix_p1, wSl, woNone, woSome]
    rw [ix_word]
    refine ⟨by decide, go_in (ws := ["fork", "repeat"]) ?_⟩
    by_cases hc : word a ∈ (["fork", "repeat"] : List Str)
    · rw [decide_eq_true hc]
      simp only [if_true]
      have hc2 : word a = "fork" ∨ word a = "repeat" := by simpa using hc
      have ix : ∀ {Q : KD}, dIx (enc a) (.int (-1)) g Q = Q (.tup (encs (inn a))) g := by
        intro Q
        rcases hc2 with e | e
        · obtain ⟨c, rfl⟩ := (word_fork oa).mp e
          rw [enc, u_ixTd at_last1]; rfl
        · obtain ⟨m, c, rfl⟩ := (word_rep oa).mp e
          rw [enc, u_ixTd at_last2]; rfl
      try simp only [u_asg, u_gN, u_ret, u_retN, u_skip, u_expr, u_ifs, u_c, u_op, u_neg, u_test, u_and, u_or, u_not, u_if, u_nil, u_cons, u_tup, u_lst, u_callP, u_call, u_b, u_chain, u_andV, u_addI, u_subI, u_mulI, u_divI, u_modI, u_powI, u_cmpI, u_eqI, u_eqS, u_eqB, u_abs, u_intI, u_intB, u_newT, u_newF, u_isN, u_notN, wVar, List.set_cons_zero, List.set_cons_succ, List.getElem?_cons_zero, List.getElem?_cons_succ, List.length_cons, List.length_nil, u_lc, u_for, u_r1, u_r2, u_r3, u_num, u_notV, u_yes, u_w0, u_w1, u_dput, u_get2, u_dget, u_prop, u_fld, u_setF, u_make, u_makeS, u_met, u_calO, u_orT, u_tupIt, u_dc, u_maxDd, u_dnew, u_tupi, ix_p0, ix_p1, wSl, woNone, woSome]
      rw [ix]
      refine ⟨trivial, _, rfl, okA_inn oa, by omega, by omega, ?_⟩
      have lw := wrdB_len (inn a)
      refine ⟨_, _, lst_ref hf2, rfl, ?_, ?_⟩
      · refine sz_le ?_
        rw [List.length_map, List.length_map, List.length_append, lw, List.length_singleton]; omega
      rw [u_newT]
      intro f2 hf3
      rw [← List.map_append]
      refine k _ _ ⟨r, f2, _, _, rfl, rfl, fun x o e => sub_up hf3 _ _ (sb2 _ _ e), sub_fresh sb2 hf3, up_same, or_, by omega, ?_, ?_⟩
      · rw [List.length_append, List.length_append, lw, List.length_singleton]; omega
      · rw [← eq]; simp
    · rw [decide_eq_false hc]
      simp only [Bool.false_eq_true, if_false]
      try simp only [u_asg, u_gN, u_ret, u_retN, u_skip, u_expr, u_ifs, u_c, u_op, u_neg, u_test, u_and, u_or, u_not, u_if, u_nil, u_cons, u_tup, u_lst, u_callP, u_call, u_b, u_chain, u_andV, u_addI, u_subI, u_mulI, u_divI, u_modI, u_powI, u_cmpI, u_eqI, u_eqS, u_eqB, u_abs, u_intI, u_intB, u_newT, u_newF, u_isN, u_notN, wVar, List.set_cons_zero, List.set_cons_succ, List.getElem?_cons_zero, List.getElem?_cons_succ, List.length_cons, List.length_nil, u_lc, u_for, u_r1, u_r2, u_r3, u_num, u_notV, u_yes, u_w0, u_w1, u_dput, u_get2, u_dget, u_prop, u_fld, u_setF, u_make, u_makeS, u_met, u_calO, u_orT, u_tupIt, u_dc, u_maxDd, u_dnew, u_tupi, ix_p0, ix_p1, wSl, woNone, woSome]
      have hi : inn a = [] := by
        cases a with
        | bare w => rfl
        | write m => rfl
        | fork c => exact absurd (show ("fork" : Str) ∈ (["fork", "repeat"] : List Str) by decide) hc
        | rep m c => exact absurd (show ("repeat" : Str) ∈ (["fork", "repeat"] : List Str) by decide) hc
      rw [hi, wrdB] at eq
      refine k _ _ ⟨r, f, _, _, rfl, rfl, sb2, hf0, hf2, or_, by omega, ?_, ?_⟩
      · rw [List.length_append, List.length_singleton]; omega
      · rw [← eq]; simp
  · rintro _ g ⟨b2, f, ws, a2, hl, rfl, sb, hf0, hf1, ok2, dp2, ln, eq⟩
    obtain rfl := encs_nil hl
    try simp only [u_asg, u_gN, u_ret, u_retN, u_skip, u_expr, u_ifs, u_c, u_op, u_neg, u_test, u_and, u_or, u_not, u_if, u_nil, u_cons, u_tup, u_lst, u_callP, u_call, u_b, u_chain, u_andV, u_addI, u_subI, u_mulI, u_divI, u_modI, u_powI, u_cmpI, u_eqI, u_eqS, u_eqB, u_abs, u_intI, u_intB, u_newT, u_newF, u_isN, u_notN, wVar, List.set_cons_zero, List.set_cons_succ, List.getElem?_cons_zero, List.getElem?_cons_succ, List.length_cons, List.length_nil, u_lc, u_for, u_r1, u_r2, u_r3, u_num, u_notV, u_yes, u_w0, u_w1, u_dput, u_get2, u_dget, u_prop, u_fld, u_setF, u_make, u_makeS, u_met, u_calO, u_orT, u_tupIt, u_dc, u_maxDd, u_dnew, u_tupi, ix_p0, ix_p1, wSl, woNone, woSome]
    rw [wrdB, List.append_nil] at eq
    rw [← eq] at q
    exact ⟨_, h, .lst hf1 hf0 sb, q⟩
end F1
namespace PK
open PySem PySem.Spec L2 C8 DL
/-! ### bodies and words may be shown -/
structure Rps (xs : List D) (k n : Nat) : Prop where
  da : dats xs = true
  sh : PyData.showableAll (pds xs) = true
  de : PyData.depthAll (pds xs) ≤ k
  le : ((PyData.shownAll (pds xs)).map fun t => t.length + 2).sum ≤ n
theorem rps_nil {k : Nat} : Rps [] k 0 := ⟨rfl, by rw [pds, PyData.showableAll], by rw [pds, PyData.depthAll]; exact Nat.zero_le _, by rw [pds, PyData.shownAll]; exact Nat.le_refl _⟩
theorem rps_cons {x : D} {xs : List D} {k m n : Nat} (r : Rp x k m) (s : Rps xs k n) : Rps (x :: xs) k (m + 2 + n) := by
  refine ⟨by rw [dats, r.da, s.da]; rfl, by rw [pds, PyData.showableAll, r.sh, s.sh]; rfl, by rw [pds, PyData.depthAll]; exact Nat.max_le.mpr ⟨r.de, s.de⟩, ?_⟩
  have h1 := r.le
  have h2 := s.le
  rw [pds, PyData.shownAll, List.map_cons, List.sum_cons]
  omega
theorem Rps.up {xs : List D} {k n l m : Nat} (r : Rps xs k n) (h1 : k ≤ l) (h2 : n ≤ m) : Rps xs l m := ⟨r.da, r.sh, Nat.le_trans r.de h1, Nat.le_trans r.le h2⟩
theorem rp_tupS {xs : List D} {k n : Nat} (s : Rps xs k n) : Rp (.tup xs) (k + 1) (3 + n) := by
  refine ⟨s.da, by rw [pd, PyData.showable]; exact s.sh, by rw [pd, PyData.depth]; have := s.de; omega, ?_⟩
  rw [pd, PyData.shown]
  refine Nat.le_trans (tup_len _) ?_
  have := s.le
  omega
theorem rp_lstS {xs : List D} {k n : Nat} (s : Rps xs k n) : Rp (.lst xs) (k + 1) (2 + n) := by
  refine ⟨s.da, by rw [pd, PyData.showable]; exact s.sh, by rw [pd, PyData.depth]; have := s.de; omega, ?_⟩
  rw [pd, PyData.shown]
  refine Nat.le_trans (lst_len _) ?_
  have := s.le
  omega
theorem bare_is {w : Str} (h : bare w = true) : w = "line" ∨ w = "flush" ∨ w = "drop" ∨ w = "both" ∨ w = "exit" ∨ w = "quit" := by
  unfold bare inD at h
  simp only [List.any_cons, List.any_nil, eqFD, Bool.or_eq_true, beq_iff_eq, Bool.or_false] at h
  rcases h with h | h | h | h | h | h <;> simp [← h]
theorem rp_st {s : Str} {n : Nat} (h : (PyData.str s).shown.length ≤ n) : Rp (.str s) 0 n := ⟨rfl, by rw [pd, PyData.showable], by rw [pd, PyData.depth]; exact Nat.le_refl _, by rw [pd]; exact h⟩
theorem rp_bare {w : Str} (h : bare w = true) : Rp (.str w) 0 8 := by
  refine rp_st ?_
  rcases bare_is h with rfl | rfl | rfl | rfl | rfl | rfl <;> rw [PyData.shown] <;> decide +kernel
theorem rp_w1 : Rp (.str "write") 0 8 := rp_st (by rw [PyData.shown]; decide +kernel)
theorem rp_w2 : Rp (.str "fork") 0 8 := rp_st (by rw [PyData.shown]; decide +kernel)
theorem rp_w3 : Rp (.str "repeat") 0 8 := rp_st (by rw [PyData.shown]; decide +kernel)
mutual
theorem rpA : ∀ (a : Ac), okA a = true → Rp (enc a) (2 * dptA a) (42 * cntA a - 2)
  | .bare w, h => by
    rw [okA] at h
    rw [enc, dptA, cntA]
    exact (rp_tupS (rps_cons (rp_bare h) rps_nil)).up (by omega) (by omega)
  | .write n, h => by
    rw [okA, Bool.and_eq_true, decide_eq_true_iff, decide_eq_true_iff] at h
    have r := rp_int (i := (n : Int)) (j := 11) (by decide) (by decide) (by omega)
    rw [enc, dptA, cntA]
    exact (rp_tupS (rps_cons rp_w1 (rps_cons r rps_nil))).up (by omega) (by omega)
  | .fork b, h => by
    rw [okA] at h
    have r := rp_tupS (rpB b h)
    rw [enc, dptA, cntA]
    exact (rp_tupS (rps_cons (rp_w2.up (Nat.zero_le _) (Nat.le_refl _)) (rps_cons r rps_nil))).up (by omega) (by omega)
  | .rep n b, h => by
    rw [okA, Bool.and_eq_true, decide_eq_true_iff] at h
    have r := rp_tupS (rpB b h.2)
    have r2 := (rp_int (i := (n : Int)) (j := 11) (by decide) (by decide) (by omega)).up (Nat.zero_le (2 * dptB b + 1)) (Nat.le_refl _)
    rw [enc, dptA, cntA]
    exact (rp_tupS (rps_cons (rp_w3.up (Nat.zero_le _) (Nat.le_refl _)) (rps_cons r2 (rps_cons r rps_nil)))).up (by omega) (by omega)
theorem rpB : ∀ (b : List Ac), okB b = true → Rps (encs b) (2 * dptB b) (42 * cntB b)
  | [], _ => by rw [encs]; exact rps_nil.up (Nat.zero_le _) (Nat.zero_le _)
  | a :: r, h => by
    obtain ⟨h1, h2⟩ := okB_cons h
    have ra := rpA a h1
    have rr := rpB r h2
    have c := cnt_inn (a := a)
    rw [encs, dptB, cntB]
    exact (rps_cons (ra.up (l := 2 * max (dptA a) (dptB r)) (by omega) (Nat.le_refl _)) (rr.up (by omega) (Nat.le_refl _))).up (Nat.le_refl _) (by omega)
end
theorem rp_bod {b : List Ac} {d c : Nat} (ok : okB b = true) (hd : dptB b ≤ d) (hc : cntB b ≤ c) : Rp (.tup (encs b)) (2 * d + 1) (3 + 42 * c) := (rp_tupS (rpB b ok)).up (by omega) (by omega)
mutual
theorem wrdA_rp : ∀ (a : Ac), okA a = true → ∀ w ∈ wrdA a, Rp (.str w) 0 8
  | .bare w, h, x, m => by
    rw [okA] at h; rw [wrdA] at m
    obtain rfl : x = w := by simpa using m
    exact rp_bare h
  | .write n, h, x, m => by
    rw [wrdA] at m
    obtain rfl : x = "write" := by simpa using m
    exact rp_w1
  | .fork b, h, x, m => by
    rw [okA] at h; rw [wrdA] at m
    rcases List.mem_cons.mp m with rfl | m
    · exact rp_w2
    · exact wrdB_rp b h x m
  | .rep n b, h, x, m => by
    rw [okA, Bool.and_eq_true] at h; rw [wrdA] at m
    rcases List.mem_cons.mp m with rfl | m
    · exact rp_w3
    · exact wrdB_rp b h.2 x m
theorem wrdB_rp : ∀ (b : List Ac), okB b = true → ∀ w ∈ wrdB b, Rp (.str w) 0 8
  | [], _, x, m => by rw [wrdB] at m; cases m
  | a :: r, h, x, m => by
    obtain ⟨h1, h2⟩ := okB_cons h
    rw [wrdB] at m
    rcases List.mem_append.mp m with m | m
    · exact wrdA_rp a h1 x m
    · exact wrdB_rp r h2 x m
end
theorem wrdB_length (b : List Ac) : (wrdB b).length = cntB b := by rw [← wrdB_wlk b [] 0, List.length_map, wlkB_len]
theorem rp_wrd {b : List Ac} {c : Nat} (ok : okB b = true) (hc : cntB b ≤ c) : Rp (.tup ((wrdB b).map .str)) 1 (3 + c * 10) :=
  rp_tup (k := 0) (n := 8) (l := c) (fun x hx => by
    obtain ⟨w, hw, rfl⟩ := List.mem_map.mp hx
    exact wrdB_rp b ok w hw) (by rw [List.length_map, wrdB_length]; exact hc)
theorem text_same {f : Bool → Bool} {s : Str} {h : AH} {Q : KD} (q : Q (.bl (f true)) h) : dEq f (.str s) (.str s) h Q := by
  rw [u_eqS, decide_eq_true rfl]; exact q
theorem cur_r {h : AH} {r : Addr} {xs : List D} (e : h r = some (.lst xs)) : cur h (.ref r) = .lst xs := by simp [cur, e]
theorem rp_r {r : Addr} {xs : List D} {k n : Nat} {h : AH} {Q : KD} (e : h r = some (.lst xs)) (rp : Rp (.lst xs) k n) (hk : k ≤ 60) (hn : n ≤ 16000000) (q : Q (.str (pd (.lst xs)).shown) h) : dRepr [.ref r] h Q := by
  have c := cur_r e
  exact ⟨_, rfl, by rw [c]; exact rp.da, by rw [c]; exact rp.sh, by rw [c]; exact Nat.le_trans rp.de hk, by rw [c]; exact Nat.le_trans rp.le (Nat.le_trans hn (by decide)), by rw [c]; exact q⟩
theorem made_go {z : Ad} {lm : Bool} {b : List Ac} {h : AH} {Q2 : KD} {X : KX} {a : Addr} (f : Fit b) (q : Q2 .non (up h a (.ins (clsOf z lm) [("held", .tup (encs b))]))) : (starS 1 (S_Program___init__ z)) (.ref a :: encs b) (up h a (.ins (clsOf z lm) [])) Q2 X := by
  have l := len_cnt (b := b)
  have := f.cnt
  refine ⟨by simp, sz_le (by simp [encs_len]; omega), lm, a, b, rfl, up_same, f, ?_⟩
  rw [up_up]
  exact q
end PK
namespace K06
open PySem PySem.Spec L2 C8 DL PK
abbrev N__law_most : List Str := ["_law_flat_here", "_law_here", "_law_found", "_law_act"]
abbrev N_law : List Str := ["_law_script", "_law_pen_here", "_law_turn", "_law_deeds_here", "_law_kept", "_law_flat_here", "_law_words_here", "_law_due", "_law_job_here", "_law_told", "_law_inner"]
/-! the most bytes on a way, from here, with the most so far -/
mutual
def mstA : Ac → Nat → Nat → Nat
  | .bare _, _, f => f
  | .write _, _, f => f
  | .fork b, h, f => max f (mstL b h h)
  | .rep _ _, _, f => f
def mstL : List Ac → Nat → Nat → Nat
  | [], _, f => f
  | a :: r, h, f => mstL r (h + byt a) (max (mstA a h f) (h + byt a))
end
def S__law_most (z : Ad) (n : Nat) : FSpec := fun ds h Q _ => ∃ b t, ds = [.tup (encs b), .int ((t : Nat) : Int)] ∧ okB b = true ∧ flaB b = true ∧ dptB b < n ∧ Q (.int (mstL b t t : Nat)) h
def S_law : FSpec := fun ds h Q _ => ∃ js : List Int, ds = [.lk (js.map D.int)] ∧ h = (fun _ => none) ∧ ∀ h', Q (.bl true) h'
/-! ### the readings -/
def w__law_most (z : Ad) (n : Nat) : WS := (wSeq (wAsg (wVar 1) (gN 2))
  (wSeq (wFor (iTupD (wVar 0)) (gN 3) (wSeq (wIfS (wTest (wOp (dEq fun b => b) (wOp dIx (wVar 3) (wC (.int 0))) (wC (.str "fork")))) (wAsg (wB dMax2 (wCons (wVar 2) (wCons (wCallP (S__law_most z n) 2 (fun ds _ => ds) (wCons (wOp dIx (wVar 3) (wC (.int 1))) (wCons (wVar 1) wNil))) wNil))) (gN 2)) wSkip)
  (wSeq (wAsg (wOp (dAdd false) (wVar 1) (wCallP (F1.S__law_bulk z) 1 (fun ds _ => ds) (wCons (wVar 3) wNil))) (gN 1))
  (wAsg (wB dMax2 (wCons (wVar 2) (wCons (wVar 1) wNil))) (gN 2)))))
  (wRet (wVar 2))))
def w_law (z : Ad) : WS := (wSeq (wAsg (wCallP (F1.S__law_pen z) 1 (fun ds _ => ds) (wCons (wVar 0) wNil)) (gN 1))
  (wSeq (wFor (iRng1 (wCons (wC (.int 9)) wNil)) (gN 2) (wSeq (wAsg (wCallP (F1.S__law_job z) 1 (fun ds _ => ds) (wCons (wVar 1) wNil)) (gN 3))
  (wSeq (wAsg (wB dRepr (wCons (wVar 3) wNil)) (gN 4))
  (wSeq (wAsg (wCallP (F1.S__law_flat z 16) 1 (fun ds _ => ds) (wCons (wVar 3) wNil)) (gN 5))
  (wSeq (wAsg (wB dTupOf (wCons (wCallP (F1.S__law_all_words z 16) 1 (fun ds _ => ds) (wCons (wVar 5) wNil)) wNil)) (gN 6))
  (wSeq (wAsg (wB dRepr (wCons (wLst false (wCons (wVar 5) (wCons (wVar 6) (wCons (wB dLen (wCons (wVar 6) wNil)) (wCons (wCallP (S__law_most z 16) 2 (fun ds _ => ds) (wCons (wVar 5) (wCons (wC (.int 0)) wNil))) (wCons (wVar 3) wNil)))))) wNil)) (gN 7))
  (wSeq (wFor (iTupD (wTup (wCons (wCMet z.Program (PK.S_Program_of z) (wC (.ref z.Program)) (wCons (wVar 3) wNil)) (wCons (wCMet z.LineProgram (PK.S_Program_of z) (wC (.ref z.LineProgram)) (wCons (wVar 3) wNil)) wNil)))) (gN 8) (wSeq (wAsg (wLst false (wCons (wOrE (wProp z.Program (PK.S_Program_unrolled z) (wVar 8)) (wProp z.LineProgram (PK.S_Program_unrolled z) (wVar 8))) (wCons (wOrE (wProp z.Program (PK.S_Program_words z) (wVar 8)) (wProp z.LineProgram (PK.S_Program_words z) (wVar 8))) (wCons (wOrE (wProp z.Program (PK.S_Program_size z) (wVar 8)) (wProp z.LineProgram (PK.S_Program_size z) (wVar 8))) (wCons (wOrE (wProp z.Program (PK.S_Program_reach z) (wVar 8)) (wProp z.LineProgram (PK.S_Program_reach z) (wVar 8))) (wCons (wOrE (wProp z.Program (PK.S_Program_body z) (wVar 8)) (wProp z.LineProgram (PK.S_Program_body z) (wVar 8))) wNil)))))) (gN 9))
  (wIfS (wOr (wTest (wOp (dEq fun b => !b) (wB dRepr (wCons (wVar 9) wNil)) (wVar 7))) (wTest (wOp (dEq fun b => !b) (wB dRepr (wCons (wVar 3) wNil)) (wVar 4)))) (wRet (wC (.bl false))) wSkip)))
  (wIfS (wOr (wTest (wOp (dEq fun b => !b) (wCallP (F1.S__law_size z 16) 1 (fun ds _ => ds) (wCons (wVar 3) wNil)) (wB dLen (wCons (wVar 6) wNil)))) (wTest (wOp (dEq fun b => !b) (wOp dIx (wCallP (F1.S__law_far z 16) 1 (fun ds _ => ds) (wCons (wVar 3) wNil)) (wC (.int 1))) (wCallP (S__law_most z 16) 2 (fun ds _ => ds) (wCons (wVar 5) (wCons (wC (.int 0)) wNil)))))) (wRet (wC (.bl false))) wSkip))))))))
  (wSeq (wAsg (wTup (wCons (wTup (wCons (wC (.str "write")) (wCons (wC (.int 2)) wNil))) (wCons (wTup (wCons (wC (.str "repeat")) (wCons (wC (.int 0)) (wCons (wTup (wCons (wTup (wCons (wC (.str "line")) wNil)) wNil)) wNil)))) (wCons (wTup (wCons (wC (.str "fork")) (wCons (wTup (wCons (wTup (wCons (wC (.str "write")) (wCons (wC (.int 5)) wNil))) wNil)) wNil))) wNil)))) (gN 10))
  (wSeq (wAsg (wMake z.Program (starS 1 (PK.S_Program___init__ z)) (wCons (wTup (wCons (wC (.str "repeat")) (wCons (wC (.int 3)) (wCons (wVar 10) wNil)))) (wCons (wTup (wCons (wC (.str "line")) wNil)) wNil))) (gN 8))
  (wRet (wOp (dEq fun b => b) (wLst false (wCons (wOrE (wProp z.Program (PK.S_Program_size z) (wVar 8)) (wProp z.LineProgram (PK.S_Program_size z) (wVar 8))) (wCons (wOrE (wProp z.Program (PK.S_Program_reach z) (wVar 8)) (wProp z.LineProgram (PK.S_Program_reach z) (wVar 8))) (wCons (wOrE (wProp z.Program (PK.S_Program_unrolled z) (wMake z.Program (starS 1 (PK.S_Program___init__ z)) wNil)) (wProp z.LineProgram (PK.S_Program_unrolled z) (wMake z.Program (starS 1 (PK.S_Program___init__ z)) wNil))) (wCons (wOrE (wProp z.Program (PK.S_Program_size z) (wMake z.Program (starS 1 (PK.S_Program___init__ z)) wNil)) (wProp z.LineProgram (PK.S_Program_size z) (wMake z.Program (starS 1 (PK.S_Program___init__ z)) wNil))) wNil))))) (wLst false (wCons (wC (.int 10)) (wCons (wC (.int 11)) (wCons (wTup wNil) (wCons (wC (.int 0)) wNil)))))))))))
theorem len__law_most (z : Ad) (n : Nat) : ∀ ds h Q X, S__law_most z n ds h Q X → ds.length = 2 := fun _ _ _ _ ⟨_, _, e, _⟩ => by rw [e]; rfl
theorem mo__law_most (z : Ad) (n : Nat) : MoF (S__law_most z n) := fun _ _ _ _ _ _ hq _ ⟨a, b, e, o1, o2, o3, q⟩ => ⟨a, b, e, o1, o2, o3, hq _ _ q⟩
theorem no__law_most (z : Ad) : ∀ ds h Q X, ¬ S__law_most z 0 ds h Q X := fun _ _ _ _ ⟨_, _, _, _, _, l, _⟩ => by omega
theorem len_law : ∀ ds h Q X, S_law ds h Q X → ds.length = 1 := fun _ _ _ _ ⟨_, e, _⟩ => by rw [e]; rfl
theorem mo_law : MoF S_law := fun _ _ _ _ _ _ hq _ ⟨a, e, o, q⟩ => ⟨a, e, o, fun h' => hq _ _ (q h')⟩
theorem law_at : ∀ js : List Int, js.length ≤ 63 → S_law [.lk (js.map D.int)] (fun _ => none) (fun d _ => d = .bl true) (fun _ _ => False) := fun js _ => ⟨js, rfl, rfl, fun _ => rfl⟩
end K06
namespace K06
open PySem PySem.Spec L2 C8 DL PK F1

theorem rchL_sh : ∀ (b : List Ac) (h m : Nat), rchL b h m = max m (h + rchL b 0 0)
  | [], h, m => by rw [rchL, rchL]; omega
  | a :: r, h, m => by
    rw [rchL, rchL, rchL_sh r (h + bynA a), rchL_sh r (0 + bynA a)]
    cases a with
    | bare w => rw [rchA, rchA]; omega
    | write n => rw [rchA, rchA]; omega
    | fork c => rw [rchA, rchA]; omega
    | rep n c =>
      rw [rchA, rchA]
      by_cases e : n = 0
      · rw [if_pos e, if_pos e]; omega
      · rw [if_neg e, if_neg e]
        generalize (n - 1) * bynB c = t
        omega
theorem rchA_sh (a : Ac) (h f : Nat) (l : h ≤ f) : rchA a h f = max f (h + rchA a 0 0) := by
  cases a with
  | bare w => rw [rchA, rchA]; omega
  | write n => rw [rchA, rchA]; omega
  | fork c => rw [rchA, rchA]; omega
  | rep n c =>
    rw [rchA, rchA]
    by_cases e : n = 0
    · rw [if_pos e, if_pos e]; omega
    · rw [if_neg e, if_neg e]
      generalize (n - 1) * bynB c = t
      omega
theorem byn_rch : ∀ (b : List Ac), bynB b ≤ rchB b
  | [] => by rw [bynB]; exact Nat.zero_le _
  | a :: r => by
    have h := byn_rch r
    rw [rchB] at h
    rw [bynB, rchB, rchL, rchL_sh]
    omega
theorem mst_rep {T rest : List Ac} {c R : Nat} (cR : c ≤ R) (hT : ∀ (rest : List Ac) (h f : Nat), h ≤ f → mstL (T ++ rest) h f = mstL rest (h + c) (max f (h + R))) :
    ∀ (n h f : Nat), h ≤ f → mstL ((List.replicate n T).flatten ++ rest) h f = mstL rest (h + n * c) (if n = 0 then f else max f (h + (n - 1) * c + R))
  | 0, h, f, l => by simp
  | n + 1, h, f, l => by
    rw [List.replicate_succ, List.flatten_cons, List.append_assoc, hT _ _ _ l, mst_rep cR hT n _ _ (by omega), if_neg (Nat.succ_ne_zero n)]
    have e : h + c + n * c = h + (n + 1) * c := by rw [Nat.succ_mul]; omega
    rw [e]
    congr 1
    by_cases z : n = 0
    · subst z; simp
    · rw [if_neg z]
      obtain ⟨k, rfl⟩ : ∃ k, n = k + 1 := ⟨n - 1, by omega⟩
      simp only [Nat.add_sub_cancel]
      have e2 : (k + 1) * c = k * c + c := Nat.succ_mul _ _
      rw [e2]
      generalize k * c = t
      omega
mutual
theorem mstA_unr : ∀ (a : Ac) (rest : List Ac) (h f : Nat), h ≤ f → mstL (unrA a ++ rest) h f = mstL rest (h + bynA a) (max (rchA a h f) (h + bynA a))
  | .bare w, rest, h, f, l => by rw [unrA, List.singleton_append, mstL, mstA, rchA, bynA]
  | .write n, rest, h, f, l => by rw [unrA, List.singleton_append, mstL, mstA, rchA, bynA, byt]
  | .fork b, rest, h, f, l => by
    have e := mstB_unr b [] h h (Nat.le_refl _)
    rw [List.append_nil, mstL] at e
    rw [unrA, List.singleton_append, mstL, mstA, rchA, bynA, byt, e, rchB]
    congr 1
    omega
  | .rep n b, rest, h, f, l => by
    have cR := byn_rch b
    rw [unrA, mst_rep cR (fun rest h f l => mstB_unr b rest h f l) n h f l, rchA, bynA]
    congr 1
    by_cases z : n = 0
    · subst z; simp; omega
    · rw [if_neg z, if_neg z]
      obtain ⟨k, rfl⟩ : ∃ k, n = k + 1 := ⟨n - 1, by omega⟩
      simp only [Nat.add_sub_cancel]
      have e2 : (k + 1) * bynB b = k * bynB b + bynB b := Nat.succ_mul _ _
      rw [e2]
      rw [rchB] at cR ⊢
      generalize k * bynB b = t
      omega
theorem mstB_unr : ∀ (b : List Ac) (rest : List Ac) (h f : Nat), h ≤ f → mstL (unrB b ++ rest) h f = mstL rest (h + bynB b) (max f (h + rchB b))
  | [], rest, h, f, l => by
    rw [unrB, bynB, rchB, rchL, List.nil_append]
    congr 1
    omega
  | a :: r, rest, h, f, l => by
    rw [unrB, List.append_assoc, mstA_unr a _ h f l, mstB_unr r _ _ _ (by omega), bynB, rchB, rchB, rchL, rchL_sh r (0 + bynA a), rchA_sh a h f l]
    rw [show h + bynA a + bynB r = h + (bynA a + bynB r) by omega]
    congr 1
    omega
end
theorem most_rch (b : List Ac) : mstL (unrB b) 0 0 = rchB b := by
  have e := mstB_unr b [] 0 0 (Nat.le_refl _)
  rw [List.append_nil, mstL] at e
  rw [e]; omega
theorem p__law_most (z : Ad) (n : Nat) : ∀ ds h Q X, S__law_most z (n + 1) ds h Q X → w__law_most z n (endsD Q X) (startD 4 ds) h := by
  rintro ds h Q X ⟨b, t0, rfl, ok, fl, dp, q⟩
  show w__law_most z n (endsD Q X) [some (.tup (encs b)), some (.int (t0 : Nat)), none, none] h
  unfold w__law_most
  ((try dsimp only); rw [u_seq]; (try simp only [u_asg, u_gN, u_ret, u_retN, u_skip, u_expr, u_ifs, u_c, u_op, u_neg, u_test, u_and, u_or, u_not, u_if, u_nil, u_cons, u_tup, u_lst, u_callP, u_call, u_b, u_chain, u_andV, u_addI, u_subI, u_mulI, u_divI, u_modI, u_powI, u_cmpI, u_eqI, u_eqS, u_eqB, u_abs, u_intI, u_intB, u_newT, u_newF, u_isN, u_notN, wVar, List.set_cons_zero, List.set_cons_succ, List.getElem?_cons_zero, List.getElem?_cons_succ, List.length_cons, List.length_nil, u_lc, u_for, u_r1, u_r2, u_r3, u_num, u_notV, u_yes, u_w0, u_w1, u_dput, u_get2, u_dget, u_prop, u_fld, u_setF, u_make, u_makeS, u_met, u_calO, u_orT, u_tupIt, u_dc, u_maxDd, u_dnew, u_tupi, ix_p0, ix_p1, wSl, woNone, woSome]))
  ((try dsimp only); rw [u_seq]; (try simp only [u_asg, u_gN, u_ret, u_retN, u_skip, u_expr, u_ifs, u_c, u_op, u_neg, u_test, u_and, u_or, u_not, u_if, u_nil, u_cons, u_tup, u_lst, u_callP, u_call, u_b, u_chain, u_andV, u_addI, u_subI, u_mulI, u_divI, u_modI, u_powI, u_cmpI, u_eqI, u_eqS, u_eqB, u_abs, u_intI, u_intB, u_newT, u_newF, u_isN, u_notN, wVar, List.set_cons_zero, List.set_cons_succ, List.getElem?_cons_zero, List.getElem?_cons_succ, List.length_cons, List.length_nil, u_lc, u_for, u_r1, u_r2, u_r3, u_num, u_notV, u_yes, u_w0, u_w1, u_dput, u_get2, u_dget, u_prop, u_fld, u_setF, u_make, u_makeS, u_met, u_calO, u_orT, u_tupIt, u_dc, u_maxDd, u_dnew, u_tupi, ix_p0, ix_p1, wSl, woNone, woSome]))
  refine loop_rest (fun l ρ h' => ∃ b2 t f a3, l = encs b2 ∧ ρ = [some (.tup (encs b)), some (.int ((t : Nat) : Int)), some (.int ((f : Nat) : Int)), a3] ∧ h = h' ∧ okB b2 = true ∧ flaB b2 = true ∧ dptB b2 ≤ dptB b ∧ mstL b2 t f = mstL b t0 t0) (fun _ _ _ _ => trivial) ?_ ?_ _ _ _
    ⟨b, t0, t0, _, rfl, rfl, rfl, ok, fl, Nat.le_refl _, rfl⟩
  · rintro x l _ _ K ⟨b2, t, f, a3, hl, rfl, rfl, ok2, fl2, dp2, ln⟩ k
    obtain ⟨a, r, rfl, rfl, rfl⟩ := encs_cons hl
    obtain ⟨oa, or_⟩ := okB_cons ok2
    obtain ⟨fa, fr⟩ := flaB_cons fl2
    rw [dptB] at dp2
    rw [mstL] at ln
    rw [u_gN]
    dsimp only [List.set_cons_zero, List.set_cons_succ]
    refine seq_go (fun ρ h' => ρ = [some (.tup (encs b)), some (.int ((t : Nat) : Int)), some (.int ((mstA a t f : Nat) : Int)), some (enc a)] ∧ h' = h) (fun K9 k9 => ?_) ?_
    · try simp only [u_asg, u_gN, u_ret, u_retN, u_skip, u_expr, u_ifs, u_c, u_op, u_neg, u_test, u_and, u_or, u_not, u_if, u_nil, u_cons, u_tup, u_lst, u_callP, u_call, u_b, u_chain, u_andV, u_addI, u_subI, u_mulI, u_divI, u_modI, u_powI, u_cmpI, u_eqI, u_eqS, u_eqB, u_abs, u_intI, u_intB, u_newT, u_newF, u_isN, u_notN, wVar, List.set_cons_zero, List.set_cons_succ, List.getElem?_cons_zero, List.getElem?_cons_succ, List.length_cons, List.length_nil, u_lc, u_for, u_r1, u_r2, u_r3, u_num, u_notV, u_yes, u_w0, u_w1, u_dput, u_get2, u_dget, u_prop, u_fld, u_setF, u_make, u_makeS, u_met, u_calO, u_orT, u_tupIt, u_dc, u_maxDd, u_dnew, u_tupi, ix_p0, ix_p1, wSl, woNone, woSome]
      rw [ix_word]
      try simp only [u_asg, u_gN, u_ret, u_retN, u_skip, u_expr, u_ifs, u_c, u_op, u_neg, u_test, u_and, u_or, u_not, u_if, u_nil, u_cons, u_tup, u_lst, u_callP, u_call, u_b, u_chain, u_andV, u_addI, u_subI, u_mulI, u_divI, u_modI, u_powI, u_cmpI, u_eqI, u_eqS, u_eqB, u_abs, u_intI, u_intB, u_newT, u_newF, u_isN, u_notN, wVar, List.set_cons_zero, List.set_cons_succ, List.getElem?_cons_zero, List.getElem?_cons_succ, List.length_cons, List.length_nil, u_lc, u_for, u_r1, u_r2, u_r3, u_num, u_notV, u_yes, u_w0, u_w1, u_dput, u_get2, u_dget, u_prop, u_fld, u_setF, u_make, u_makeS, u_met, u_calO, u_orT, u_tupIt, u_dc, u_maxDd, u_dnew, u_tupi, ix_p0, ix_p1, wSl, woNone, woSome]
      by_cases hf : word a = "fork"
      · rw [if_pos (decide_eq_true hf)]
        obtain ⟨c, rfl⟩ := (word_fork oa).mp hf
        rw [okA] at oa
        rw [flaA] at fa
        rw [dptA] at dp2
        rw [ix_fork1]
        refine ⟨trivial, c, t, rfl, oa, fa, by omega, ?_⟩
        try simp only [u_asg, u_gN, u_ret, u_retN, u_skip, u_expr, u_ifs, u_c, u_op, u_neg, u_test, u_and, u_or, u_not, u_if, u_nil, u_cons, u_tup, u_lst, u_callP, u_call, u_b, u_chain, u_andV, u_addI, u_subI, u_mulI, u_divI, u_modI, u_powI, u_cmpI, u_eqI, u_eqS, u_eqB, u_abs, u_intI, u_intB, u_newT, u_newF, u_isN, u_notN, wVar, List.set_cons_zero, List.set_cons_succ, List.getElem?_cons_zero, List.getElem?_cons_succ, List.length_cons, List.length_nil, u_lc, u_for, u_r1, u_r2, u_r3, u_num, u_notV, u_yes, u_w0, u_w1, u_dput, u_get2, u_dget, u_prop, u_fld, u_setF, u_make, u_makeS, u_met, u_calO, u_orT, u_tupIt, u_dc, u_maxDd, u_dnew, u_tupi, ix_p0, ix_p1, wSl, woNone, woSome]
        refine go_max (k9 _ _ ⟨?_, rfl⟩)
        rw [mstA]
      · rw [if_neg (by rw [decide_eq_false hf]; decide)]
        refine k9 _ _ ⟨?_, rfl⟩
        cases a with
        | bare w => rw [mstA]
        | write i => rw [mstA]
        | fork c => exact absurd rfl hf
        | rep i c => rw [mstA]
    · rintro _ _ ⟨rfl, rfl⟩
      ((try dsimp only); rw [u_seq]; (try simp only [u_asg, u_gN, u_ret, u_retN, u_skip, u_expr, u_ifs, u_c, u_op, u_neg, u_test, u_and, u_or, u_not, u_if, u_nil, u_cons, u_tup, u_lst, u_callP, u_call, u_b, u_chain, u_andV, u_addI, u_subI, u_mulI, u_divI, u_modI, u_powI, u_cmpI, u_eqI, u_eqS, u_eqB, u_abs, u_intI, u_intB, u_newT, u_newF, u_isN, u_notN, wVar, List.set_cons_zero, List.set_cons_succ, List.getElem?_cons_zero, List.getElem?_cons_succ, List.length_cons, List.length_nil, u_lc, u_for, u_r1, u_r2, u_r3, u_num, u_notV, u_yes, u_w0, u_w1, u_dput, u_get2, u_dget, u_prop, u_fld, u_setF, u_make, u_makeS, u_met, u_calO, u_orT, u_tupIt, u_dc, u_maxDd, u_dnew, u_tupi, ix_p0, ix_p1, wSl, woNone, woSome]))
      refine ⟨trivial, a, rfl, oa, ?_⟩
      try simp only [u_asg, u_gN, u_ret, u_retN, u_skip, u_expr, u_ifs, u_c, u_op, u_neg, u_test, u_and, u_or, u_not, u_if, u_nil, u_cons, u_tup, u_lst, u_callP, u_call, u_b, u_chain, u_andV, u_addI, u_subI, u_mulI, u_divI, u_modI, u_powI, u_cmpI, u_eqI, u_eqS, u_eqB, u_abs, u_intI, u_intB, u_newT, u_newF, u_isN, u_notN, wVar, List.set_cons_zero, List.set_cons_succ, List.getElem?_cons_zero, List.getElem?_cons_succ, List.length_cons, List.length_nil, u_lc, u_for, u_r1, u_r2, u_r3, u_num, u_notV, u_yes, u_w0, u_w1, u_dput, u_get2, u_dget, u_prop, u_fld, u_setF, u_make, u_makeS, u_met, u_calO, u_orT, u_tupIt, u_dc, u_maxDd, u_dnew, u_tupi, ix_p0, ix_p1, wSl, woNone, woSome]
      have e : (t : Int) + (byt a : Nat) = ((t + byt a : Nat) : Int) := by omega
      rw [e]
      refine go_max (k _ _ ⟨r, _, _, _, rfl, rfl, rfl, or_, fr, by omega, ln⟩)
  · rintro _ _ ⟨b2, t, f, a3, hl, rfl, rfl, ok2, fl2, dp2, ln⟩
    obtain rfl := encs_nil hl
    try simp only [u_asg, u_gN, u_ret, u_retN, u_skip, u_expr, u_ifs, u_c, u_op, u_neg, u_test, u_and, u_or, u_not, u_if, u_nil, u_cons, u_tup, u_lst, u_callP, u_call, u_b, u_chain, u_andV, u_addI, u_subI, u_mulI, u_divI, u_modI, u_powI, u_cmpI, u_eqI, u_eqS, u_eqB, u_abs, u_intI, u_intB, u_newT, u_newF, u_isN, u_notN, wVar, List.set_cons_zero, List.set_cons_succ, List.getElem?_cons_zero, List.getElem?_cons_succ, List.length_cons, List.length_nil, u_lc, u_for, u_r1, u_r2, u_r3, u_num, u_notV, u_yes, u_w0, u_w1, u_dput, u_get2, u_dget, u_prop, u_fld, u_setF, u_make, u_makeS, u_met, u_calO, u_orT, u_tupIt, u_dc, u_maxDd, u_dnew, u_tupi, ix_p0, ix_p1, wSl, woNone, woSome]
    rw [mstL] at ln
    rw [ln]
    exact fin_of q
end K06
namespace K06
open PySem PySem.Spec L2 C8 DL PK F1

theorem job_fit {b : List Ac} (j : Job b) : Fit b := by
  have c := j.bod.cnt
  have e : 6 * cN 2 = 132 := by decide
  exact ⟨j.bod.ok, by have := j.bod.dpt; omega, by omega, by have := j.siz; omega, by have := j.rch; omega⟩
theorem job_prg {b : List Ac} (j : Job b) : Prg b := by
  have c := j.bod.big
  have e : 6 * bN 2 = 3456 := by decide
  exact ⟨j.bod.ok, by have := j.bod.dpt; omega, by omega⟩
def dueL (b : List Ac) : List D := [.tup (encs (unrB b)), .tup ((wrdB (unrB b)).map .str), .int (sizB b : Nat), .int (rchB b : Nat), .tup (encs b)]
theorem rp_due {b : List Ac} (j : Job b) : Rp (.lst (dueL b)) 10 (2 + 5 * (40000 + 2)) := by
  have ok := j.bod.ok
  obtain ⟨u1, u2, u3, u4, u5⟩ := unrB_ok b ok
  have d := j.bod.dpt
  have s := j.siz
  have r := j.rch
  have c := j.bod.cnt
  have e : 6 * cN 2 = 132 := by decide
  refine rp_lst (k := 9) (n := 40000) (l := 5) (fun x hx => ?_) (by simp [dueL])
  have : x = .tup (encs (unrB b)) ∨ x = .tup ((wrdB (unrB b)).map .str) ∨ x = .int (sizB b : Nat) ∨ x = .int (rchB b : Nat) ∨ x = .tup (encs b) := by simpa [dueL] using hx
  rcases this with rfl | rfl | rfl | rfl | rfl
  · exact (rp_bod (d := 4) (c := 900) u1 (by omega) (by omega)).up (by omega) (by omega)
  · exact (rp_wrd (c := 900) u1 (by omega)).up (by omega) (by omega)
  · exact (rp_int (j := 10) (by decide) (by decide) (by omega)).up (by omega) (by omega)
  · exact (rp_int (j := 10) (by decide) (by decide) (by omega)).up (by omega) (by omega)
  · exact (rp_bod (d := 4) (c := 132) ok (by omega) (by omega)).up (by omega) (by omega)
def bIn : List Ac := [.write 2, .rep 0 [.bare "line"], .fork [.write 5]]
def bEnd : List Ac := [.rep 3 bIn, .bare "line"]
theorem bEnd_ok : Fit bEnd ∧ Prg bEnd := by
  have hw : bare "line" = true := by decide +kernel
  have o : okB bEnd = true := by
    simp [bEnd, bIn, okB, okA, hw]
  refine ⟨⟨o, ?_, ?_, ?_, ?_⟩, ⟨o, ?_, ?_⟩⟩
  · simp [bEnd, bIn, dptB, dptA]
  · simp [bEnd, bIn, cntB, cntA]
  · simp [bEnd, bIn, sizB, sizA]
  · simp [bEnd, bIn, rchB, rchL, rchA, bynB, bynA, byt]
  · simp [bEnd, bIn, dptB, dptA]
  · simp [bEnd, bIn, bigB, bigA]
theorem bEnd_siz : sizB bEnd = 10 := by simp [bEnd, bIn, sizB, sizA]
theorem bEnd_rch : rchB bEnd = 11 := by simp [bEnd, bIn, rchB, rchL, rchA, bynB, bynA, byt]
theorem p_law (z : Ad) : ∀ ds h Q X, S_law ds h Q X → w_law z (endsD Q X) (startD 11 ds) h := by
  rintro ds h Q X ⟨js, rfl, rfl, q⟩
  show w_law z (endsD Q X) [some (.lk (js.map D.int)), none, none, none, none, none, none, none, none, none, none] _
  have q : ∀ h', fin Q (.bl true) h' := fun h' => fin_of (q h')
  unfold w_law
  ((try dsimp only); rw [u_seq]; (try simp only [u_asg, u_gN, u_ret, u_retN, u_skip, u_expr, u_ifs, u_c, u_op, u_neg, u_test, u_and, u_or, u_not, u_if, u_nil, u_cons, u_tup, u_lst, u_callP, u_call, u_b, u_chain, u_andV, u_addI, u_subI, u_mulI, u_divI, u_modI, u_powI, u_cmpI, u_eqI, u_eqS, u_eqB, u_abs, u_intI, u_intB, u_newT, u_newF, u_isN, u_notN, wVar, List.set_cons_zero, List.set_cons_succ, List.getElem?_cons_zero, List.getElem?_cons_succ, List.length_cons, List.length_nil, u_lc, u_for, u_r1, u_r2, u_r3, u_num, u_notV, u_yes, u_w0, u_w1, u_dput, u_get2, u_dget, u_prop, u_fld, u_setF, u_make, u_makeS, u_met, u_calO, u_orT, u_tupIt, u_dc, u_maxDd, u_dnew, u_tupi, ix_p0, ix_p1, wSl, woNone, woSome]))
  refine ⟨trivial, js, rfl, fun p o _ r0 => ?_⟩
  have I : PenAt 0 (up (fun _ => none) p o) p := ⟨o, up_same, r0⟩
  generalize up (fun _ => none) p o = h at I ⊢
  replace I := Inv0.start I
  refine seq_go (fun ρ h' => ∃ a2 a3 a4 a5 a6 a7 a8 a9 a10, ρ = [some (.lk (js.map D.int)), some (.ref p), a2, a3, a4, a5, a6, a7, a8, a9, a10]) (fun K k => ?_) ?_
  · simp only [u_asg, u_gN, u_ret, u_retN, u_skip, u_expr, u_ifs, u_c, u_op, u_neg, u_test, u_and, u_or, u_not, u_if, u_nil, u_cons, u_tup, u_lst, u_callP, u_call, u_b, u_chain, u_andV, u_addI, u_subI, u_mulI, u_divI, u_modI, u_powI, u_cmpI, u_eqI, u_eqS, u_eqB, u_abs, u_intI, u_intB, u_newT, u_newF, u_isN, u_notN, wVar, List.set_cons_zero, List.set_cons_succ, List.getElem?_cons_zero, List.getElem?_cons_succ, List.length_cons, List.length_nil, u_lc, u_for, u_r1, u_r2, u_r3, u_num, u_notV, u_yes, u_w0, u_w1, u_dput, u_get2, u_dget, u_prop, u_fld, u_setF, u_make, u_makeS, u_met, u_calO, u_orT, u_tupIt, u_dc, u_maxDd, u_dnew, u_tupi, ix_p0, ix_p1, wSl, woNone, woSome]
    refine ⟨by decide, by decide, ?_⟩
    refine loop_go (fun i ρ h' => ∃ a2 a3 a4 a5 a6 a7 a8 a9 a10, ρ = [some (.lk (js.map D.int)), some (.ref p), a2, a3, a4, a5, a6, a7, a8, a9, a10] ∧ Inv0 h p (400 * i) h') ⟨_, _, _, _, _, _, _, _, _, rfl, by simpa using I⟩ (fun _ _ _ _ => trivial) ?_ ?_
    · rintro i x _ g K9 hi ⟨a2, a3, a4, a5, a6, a7, a8, a9, a10, rfl, I⟩ k9
      obtain ⟨rfl, li⟩ := intsD_get hi
      have li : i < 9 := li
      rw [u_gN]
      dsimp only [List.set_cons_zero, List.set_cons_succ]
      ((try dsimp only); rw [u_seq]; (try simp only [u_asg, u_gN, u_ret, u_retN, u_skip, u_expr, u_ifs, u_c, u_op, u_neg, u_test, u_and, u_or, u_not, u_if, u_nil, u_cons, u_tup, u_lst, u_callP, u_call, u_b, u_chain, u_andV, u_addI, u_subI, u_mulI, u_divI, u_modI, u_powI, u_cmpI, u_eqI, u_eqS, u_eqB, u_abs, u_intI, u_intB, u_newT, u_newF, u_isN, u_notN, wVar, List.set_cons_zero, List.set_cons_succ, List.getElem?_cons_zero, List.getElem?_cons_succ, List.length_cons, List.length_nil, u_lc, u_for, u_r1, u_r2, u_r3, u_num, u_notV, u_yes, u_w0, u_w1, u_dput, u_get2, u_dget, u_prop, u_fld, u_setF, u_make, u_makeS, u_met, u_calO, u_orT, u_tupIt, u_dc, u_maxDd, u_dnew, u_tupi, ix_p0, ix_p1, wSl, woNone, woSome]))
      refine ⟨trivial, 400 * i, p, rfl, I.pen, by omega, fun b o j po => ?_⟩
      replace I := I.draw po
      generalize up g p o = g1 at I ⊢
      have f := job_fit j
      have pr := job_prg j
      have ok := j.bod.ok
      have d := j.bod.dpt
      have c := j.bod.cnt
      have s := j.siz
      have ec : 6 * cN 2 = 132 := by decide
      obtain ⟨u1, u2, u3, u4, u5⟩ := unrB_ok b ok
      have rb := rp_bod (d := 4) (c := 132) ok (by omega) (by omega)
      have rd := rp_due j
      ((try dsimp only); rw [u_seq]; (try simp only [u_asg, u_gN, u_ret, u_retN, u_skip, u_expr, u_ifs, u_c, u_op, u_neg, u_test, u_and, u_or, u_not, u_if, u_nil, u_cons, u_tup, u_lst, u_callP, u_call, u_b, u_chain, u_andV, u_addI, u_subI, u_mulI, u_divI, u_modI, u_powI, u_cmpI, u_eqI, u_eqS, u_eqB, u_abs, u_intI, u_intB, u_newT, u_newF, u_isN, u_notN, wVar, List.set_cons_zero, List.set_cons_succ, List.getElem?_cons_zero, List.getElem?_cons_succ, List.length_cons, List.length_nil, u_lc, u_for, u_r1, u_r2, u_r3, u_num, u_notV, u_yes, u_w0, u_w1, u_dput, u_get2, u_dget, u_prop, u_fld, u_setF, u_make, u_makeS, u_met, u_calO, u_orT, u_tupIt, u_dc, u_maxDd, u_dnew, u_tupi, ix_p0, ix_p1, wSl, woNone, woSome]))
      refine rp_go rb (by decide) (by decide) rfl ?_
      ((try dsimp only); rw [u_seq]; (try simp only [u_asg, u_gN, u_ret, u_retN, u_skip, u_expr, u_ifs, u_c, u_op, u_neg, u_test, u_and, u_or, u_not, u_if, u_nil, u_cons, u_tup, u_lst, u_callP, u_call, u_b, u_chain, u_andV, u_addI, u_subI, u_mulI, u_divI, u_modI, u_powI, u_cmpI, u_eqI, u_eqS, u_eqB, u_abs, u_intI, u_intB, u_newT, u_newF, u_isN, u_notN, wVar, List.set_cons_zero, List.set_cons_succ, List.getElem?_cons_zero, List.getElem?_cons_succ, List.length_cons, List.length_nil, u_lc, u_for, u_r1, u_r2, u_r3, u_num, u_notV, u_yes, u_w0, u_w1, u_dput, u_get2, u_dget, u_prop, u_fld, u_setF, u_make, u_makeS, u_met, u_calO, u_orT, u_tupIt, u_dc, u_maxDd, u_dnew, u_tupi, ix_p0, ix_p1, wSl, woNone, woSome]))
      refine ⟨trivial, b, rfl, ok, by omega, pr.big, ?_⟩
      ((try dsimp only); rw [u_seq]; (try simp only [u_asg, u_gN, u_ret, u_retN, u_skip, u_expr, u_ifs, u_c, u_op, u_neg, u_test, u_and, u_or, u_not, u_if, u_nil, u_cons, u_tup, u_lst, u_callP, u_call, u_b, u_chain, u_andV, u_addI, u_subI, u_mulI, u_divI, u_modI, u_powI, u_cmpI, u_eqI, u_eqS, u_eqB, u_abs, u_intI, u_intB, u_newT, u_newF, u_isN, u_notN, wVar, List.set_cons_zero, List.set_cons_succ, List.getElem?_cons_zero, List.getElem?_cons_succ, List.length_cons, List.length_nil, u_lc, u_for, u_r1, u_r2, u_r3, u_num, u_notV, u_yes, u_w0, u_w1, u_dput, u_get2, u_dget, u_prop, u_fld, u_setF, u_make, u_makeS, u_met, u_calO, u_orT, u_tupIt, u_dc, u_maxDd, u_dnew, u_tupi, ix_p0, ix_p1, wSl, woNone, woSome]))
      refine ⟨trivial, unrB b, rfl, u1, by omega, by omega, ?_⟩
      refine ⟨_, _, rfl, rfl, ?_⟩
      ((try dsimp only); rw [u_seq]; (try simp only [u_asg, u_gN, u_ret, u_retN, u_skip, u_expr, u_ifs, u_c, u_op, u_neg, u_test, u_and, u_or, u_not, u_if, u_nil, u_cons, u_tup, u_lst, u_callP, u_call, u_b, u_chain, u_andV, u_addI, u_subI, u_mulI, u_divI, u_modI, u_powI, u_cmpI, u_eqI, u_eqS, u_eqB, u_abs, u_intI, u_intB, u_newT, u_newF, u_isN, u_notN, wVar, List.set_cons_zero, List.set_cons_succ, List.getElem?_cons_zero, List.getElem?_cons_succ, List.length_cons, List.length_nil, u_lc, u_for, u_r1, u_r2, u_r3, u_num, u_notV, u_yes, u_w0, u_w1, u_dput, u_get2, u_dget, u_prop, u_fld, u_setF, u_make, u_makeS, u_met, u_calO, u_orT, u_tupIt, u_dc, u_maxDd, u_dnew, u_tupi, ix_p0, ix_p1, wSl, woNone, woSome]))
      rw [u_lenT]
      try simp only [u_asg, u_gN, u_ret, u_retN, u_skip, u_expr, u_ifs, u_c, u_op, u_neg, u_test, u_and, u_or, u_not, u_if, u_nil, u_cons, u_tup, u_lst, u_callP, u_call, u_b, u_chain, u_andV, u_addI, u_subI, u_mulI, u_divI, u_modI, u_powI, u_cmpI, u_eqI, u_eqS, u_eqB, u_abs, u_intI, u_intB, u_newT, u_newF, u_isN, u_notN, wVar, List.set_cons_zero, List.set_cons_succ, List.getElem?_cons_zero, List.getElem?_cons_succ, List.length_cons, List.length_nil, u_lc, u_for, u_r1, u_r2, u_r3, u_num, u_notV, u_yes, u_w0, u_w1, u_dput, u_get2, u_dget, u_prop, u_fld, u_setF, u_make, u_makeS, u_met, u_calO, u_orT, u_tupIt, u_dc, u_maxDd, u_dnew, u_tupi, ix_p0, ix_p1, wSl, woNone, woSome]
      refine ⟨trivial, unrB b, 0, rfl, u1, u2, by omega, ?_⟩
      rw [most_rch, List.length_map, wrdB_length, u4]
      refine ⟨by decide, ?_⟩
      try simp only [u_asg, u_gN, u_ret, u_retN, u_skip, u_expr, u_ifs, u_c, u_op, u_neg, u_test, u_and, u_or, u_not, u_if, u_nil, u_cons, u_tup, u_lst, u_callP, u_call, u_b, u_chain, u_andV, u_addI, u_subI, u_mulI, u_divI, u_modI, u_powI, u_cmpI, u_eqI, u_eqS, u_eqB, u_abs, u_intI, u_intB, u_newT, u_newF, u_isN, u_notN, wVar, List.set_cons_zero, List.set_cons_succ, List.getElem?_cons_zero, List.getElem?_cons_succ, List.length_cons, List.length_nil, u_lc, u_for, u_r1, u_r2, u_r3, u_num, u_notV, u_yes, u_w0, u_w1, u_dput, u_get2, u_dget, u_prop, u_fld, u_setF, u_make, u_makeS, u_met, u_calO, u_orT, u_tupIt, u_dc, u_maxDd, u_dnew, u_tupi, ix_p0, ix_p1, wSl, woNone, woSome]
      refine rp_go rd (by decide) (by decide) rfl ?_
      refine seq_go (fun ρ h' => ∃ a8 a9, ρ = [some (.lk (js.map D.int)), some (.ref p), some (.int (0 + (i : Nat))), some (.tup (encs b)), some (.str (pd (.tup (encs b))).shown), some (.tup (encs (unrB b))), some (.tup ((wrdB (unrB b)).map .str)), some (.str (pd (.lst (dueL b))).shown), a8, a9, a10] ∧ h' = g1) (fun K k => ?_) ?_
      · try simp only [u_cmet, u_asg, u_gN, u_ret, u_retN, u_skip, u_expr, u_ifs, u_c, u_op, u_neg, u_test, u_and, u_or, u_not, u_if, u_nil, u_cons, u_tup, u_lst, u_callP, u_call, u_b, u_chain, u_andV, u_addI, u_subI, u_mulI, u_divI, u_modI, u_powI, u_cmpI, u_eqI, u_eqS, u_eqB, u_abs, u_intI, u_intB, u_newT, u_newF, u_isN, u_notN, wVar, List.set_cons_zero, List.set_cons_succ, List.getElem?_cons_zero, List.getElem?_cons_succ, List.length_cons, List.length_nil, u_lc, u_for, u_r1, u_r2, u_r3, u_num, u_notV, u_yes, u_w0, u_w1, u_dput, u_get2, u_dget, u_prop, u_fld, u_setF, u_make, u_makeS, u_met, u_calO, u_orT, u_tupIt, u_dc, u_maxDd, u_dnew, u_tupi, ix_p0, ix_p1, wSl, woNone, woSome]
        refine ⟨trivial, false, b, rfl, f, trivial, true, b, rfl, f, ?_⟩
        refine ⟨by decide, ?_⟩
        refine loop_rest (fun l ρ h' => (∀ x ∈ l, ∃ lm, x = prog z lm b) ∧ ∃ a8 a9, ρ = [some (.lk (js.map D.int)), some (.ref p), some (.int (0 + (i : Nat))), some (.tup (encs b)), some (.str (pd (.tup (encs b))).shown), some (.tup (encs (unrB b))), some (.tup ((wrdB (unrB b)).map .str)), some (.str (pd (.lst (dueL b))).shown), a8, a9, a10] ∧ h' = g1) (fun _ _ _ _ => trivial) ?_ ?_ _ _ _ ⟨?_, _, _, rfl, rfl⟩
        · rintro x l _ _ K2 ⟨hx, a8, a9, rfl, rfl⟩ k2
          obtain ⟨lm, rfl⟩ := hx x (List.mem_cons_self ..)
          rw [u_gN]
          dsimp only [List.set_cons_zero, List.set_cons_succ]
          ((try dsimp only); rw [u_seq]; (try simp only [u_asg, u_gN, u_ret, u_retN, u_skip, u_expr, u_ifs, u_c, u_op, u_neg, u_test, u_and, u_or, u_not, u_if, u_nil, u_cons, u_tup, u_lst, u_callP, u_call, u_b, u_chain, u_andV, u_addI, u_subI, u_mulI, u_divI, u_modI, u_powI, u_cmpI, u_eqI, u_eqS, u_eqB, u_abs, u_intI, u_intB, u_newT, u_newF, u_isN, u_notN, wVar, List.set_cons_zero, List.set_cons_succ, List.getElem?_cons_zero, List.getElem?_cons_succ, List.length_cons, List.length_nil, u_lc, u_for, u_r1, u_r2, u_r3, u_num, u_notV, u_yes, u_w0, u_w1, u_dput, u_get2, u_dget, u_prop, u_fld, u_setF, u_make, u_makeS, u_met, u_calO, u_orT, u_tupIt, u_dc, u_maxDd, u_dnew, u_tupi, ix_p0, ix_p1, wSl, woNone, woSome]))
          refine go_prop rfl ⟨lm, b, rfl, pr, ?_⟩
          refine go_prop rfl ⟨lm, b, rfl, pr, ?_⟩
          refine go_prop rfl ⟨lm, b, rfl, ok, pr.dpt, ?_⟩
          refine go_prop rfl ⟨lm, b, rfl, ok, pr.dpt, ?_⟩
          refine go_prop rfl ⟨lm, b, rfl, ?_⟩
          refine ⟨by decide, ?_⟩
          try simp only [u_asg, u_gN, u_ret, u_retN, u_skip, u_expr, u_ifs, u_c, u_op, u_neg, u_test, u_and, u_or, u_not, u_if, u_nil, u_cons, u_tup, u_lst, u_callP, u_call, u_b, u_chain, u_andV, u_addI, u_subI, u_mulI, u_divI, u_modI, u_powI, u_cmpI, u_eqI, u_eqS, u_eqB, u_abs, u_intI, u_intB, u_newT, u_newF, u_isN, u_notN, wVar, List.set_cons_zero, List.set_cons_succ, List.getElem?_cons_zero, List.getElem?_cons_succ, List.length_cons, List.length_nil, u_lc, u_for, u_r1, u_r2, u_r3, u_num, u_notV, u_yes, u_w0, u_w1, u_dput, u_get2, u_dget, u_prop, u_fld, u_setF, u_make, u_makeS, u_met, u_calO, u_orT, u_tupIt, u_dc, u_maxDd, u_dnew, u_tupi, ix_p0, ix_p1, wSl, woNone, woSome]
          refine rp_go rd (by decide) (by decide) rfl (text_same ?_)
          try simp only [Bool.not_true, Bool.false_eq_true, if_false]
          refine rp_go rb (by decide) (by decide) rfl (text_same ?_)
          try simp only [Bool.not_true, Bool.false_eq_true, if_false]
          try simp only [u_asg, u_gN, u_ret, u_retN, u_skip, u_expr, u_ifs, u_c, u_op, u_neg, u_test, u_and, u_or, u_not, u_if, u_nil, u_cons, u_tup, u_lst, u_callP, u_call, u_b, u_chain, u_andV, u_addI, u_subI, u_mulI, u_divI, u_modI, u_powI, u_cmpI, u_eqI, u_eqS, u_eqB, u_abs, u_intI, u_intB, u_newT, u_newF, u_isN, u_notN, wVar, List.set_cons_zero, List.set_cons_succ, List.getElem?_cons_zero, List.getElem?_cons_succ, List.length_cons, List.length_nil, u_lc, u_for, u_r1, u_r2, u_r3, u_num, u_notV, u_yes, u_w0, u_w1, u_dput, u_get2, u_dget, u_prop, u_fld, u_setF, u_make, u_makeS, u_met, u_calO, u_orT, u_tupIt, u_dc, u_maxDd, u_dnew, u_tupi, ix_p0, ix_p1, wSl, woNone, woSome]
          exact k2 _ _ ⟨fun y hy => hx y (List.mem_cons_of_mem _ hy), _, _, rfl, rfl⟩
        · rintro _ _ ⟨_, a8, a9, rfl, rfl⟩
          exact k _ _ ⟨_, _, rfl, rfl⟩
        · intro y hy
          have : y = prog z false b ∨ y = prog z true b := by simpa using hy
          rcases this with rfl | rfl
          · exact ⟨false, rfl⟩
          · exact ⟨true, rfl⟩
      rintro _ _ ⟨a8, a9, rfl, rfl⟩
      try simp only [u_asg, u_gN, u_ret, u_retN, u_skip, u_expr, u_ifs, u_c, u_op, u_neg, u_test, u_and, u_or, u_not, u_if, u_nil, u_cons, u_tup, u_lst, u_callP, u_call, u_b, u_chain, u_andV, u_addI, u_subI, u_mulI, u_divI, u_modI, u_powI, u_cmpI, u_eqI, u_eqS, u_eqB, u_abs, u_intI, u_intB, u_newT, u_newF, u_isN, u_notN, wVar, List.set_cons_zero, List.set_cons_succ, List.getElem?_cons_zero, List.getElem?_cons_succ, List.length_cons, List.length_nil, u_lc, u_for, u_r1, u_r2, u_r3, u_num, u_notV, u_yes, u_w0, u_w1, u_dput, u_get2, u_dget, u_prop, u_fld, u_setF, u_make, u_makeS, u_met, u_calO, u_orT, u_tupIt, u_dc, u_maxDd, u_dnew, u_tupi, ix_p0, ix_p1, wSl, woNone, woSome]
      refine ⟨trivial, b, rfl, ok, by omega, ?_⟩
      dsimp only
      rw [u_lenT, List.length_map, wrdB_length, u4]
      rw [u_eqI, decide_eq_true rfl]
      simp only [Bool.not_true, Bool.false_eq_true, if_false]
      try simp only [u_asg, u_gN, u_ret, u_retN, u_skip, u_expr, u_ifs, u_c, u_op, u_neg, u_test, u_and, u_or, u_not, u_if, u_nil, u_cons, u_tup, u_lst, u_callP, u_call, u_b, u_chain, u_andV, u_addI, u_subI, u_mulI, u_divI, u_modI, u_powI, u_cmpI, u_eqI, u_eqS, u_eqB, u_abs, u_intI, u_intB, u_newT, u_newF, u_isN, u_notN, wVar, List.set_cons_zero, List.set_cons_succ, List.getElem?_cons_zero, List.getElem?_cons_succ, List.length_cons, List.length_nil, u_lc, u_for, u_r1, u_r2, u_r3, u_num, u_notV, u_yes, u_w0, u_w1, u_dput, u_get2, u_dget, u_prop, u_fld, u_setF, u_make, u_makeS, u_met, u_calO, u_orT, u_tupIt, u_dc, u_maxDd, u_dnew, u_tupi, ix_p0, ix_p1, wSl, woNone, woSome]
      refine ⟨trivial, b, rfl, ok, by omega, ?_⟩
      dsimp only
      rw [u_ixTd at1]
      try simp only [u_asg, u_gN, u_ret, u_retN, u_skip, u_expr, u_ifs, u_c, u_op, u_neg, u_test, u_and, u_or, u_not, u_if, u_nil, u_cons, u_tup, u_lst, u_callP, u_call, u_b, u_chain, u_andV, u_addI, u_subI, u_mulI, u_divI, u_modI, u_powI, u_cmpI, u_eqI, u_eqS, u_eqB, u_abs, u_intI, u_intB, u_newT, u_newF, u_isN, u_notN, wVar, List.set_cons_zero, List.set_cons_succ, List.getElem?_cons_zero, List.getElem?_cons_succ, List.length_cons, List.length_nil, u_lc, u_for, u_r1, u_r2, u_r3, u_num, u_notV, u_yes, u_w0, u_w1, u_dput, u_get2, u_dget, u_prop, u_fld, u_setF, u_make, u_makeS, u_met, u_calO, u_orT, u_tupIt, u_dc, u_maxDd, u_dnew, u_tupi, ix_p0, ix_p1, wSl, woNone, woSome]
      refine ⟨trivial, unrB b, 0, rfl, u1, u2, by omega, ?_⟩
      dsimp only
      rw [most_rch, u_eqI, decide_eq_true rfl]
      simp only [Bool.not_true, Bool.false_eq_true, if_false]
      try simp only [u_asg, u_gN, u_ret, u_retN, u_skip, u_expr, u_ifs, u_c, u_op, u_neg, u_test, u_and, u_or, u_not, u_if, u_nil, u_cons, u_tup, u_lst, u_callP, u_call, u_b, u_chain, u_andV, u_addI, u_subI, u_mulI, u_divI, u_modI, u_powI, u_cmpI, u_eqI, u_eqS, u_eqB, u_abs, u_intI, u_intB, u_newT, u_newF, u_isN, u_notN, wVar, List.set_cons_zero, List.set_cons_succ, List.getElem?_cons_zero, List.getElem?_cons_succ, List.length_cons, List.length_nil, u_lc, u_for, u_r1, u_r2, u_r3, u_num, u_notV, u_yes, u_w0, u_w1, u_dput, u_get2, u_dget, u_prop, u_fld, u_setF, u_make, u_makeS, u_met, u_calO, u_orT, u_tupIt, u_dc, u_maxDd, u_dnew, u_tupi, ix_p0, ix_p1, wSl, woNone, woSome]
      exact k9 _ _ ⟨_, _, _, _, _, _, _, _, _, rfl, I.mono (by omega)⟩
    · rintro _ g ⟨a2, a3, a4, a5, a6, a7, a8, a9, a10, rfl, I⟩
      exact k _ _ ⟨_, _, _, _, _, _, _, _, _, rfl⟩
  rintro _ g ⟨a2, a3, a4, a5, a6, a7, a8, a9, a10, rfl⟩
  obtain ⟨f2, r2⟩ := bEnd_ok
  ((try dsimp only); rw [u_seq]; (try simp only [u_asg, u_gN, u_ret, u_retN, u_skip, u_expr, u_ifs, u_c, u_op, u_neg, u_test, u_and, u_or, u_not, u_if, u_nil, u_cons, u_tup, u_lst, u_callP, u_call, u_b, u_chain, u_andV, u_addI, u_subI, u_mulI, u_divI, u_modI, u_powI, u_cmpI, u_eqI, u_eqS, u_eqB, u_abs, u_intI, u_intB, u_newT, u_newF, u_isN, u_notN, wVar, List.set_cons_zero, List.set_cons_succ, List.getElem?_cons_zero, List.getElem?_cons_succ, List.length_cons, List.length_nil, u_lc, u_for, u_r1, u_r2, u_r3, u_num, u_notV, u_yes, u_w0, u_w1, u_dput, u_get2, u_dget, u_prop, u_fld, u_setF, u_make, u_makeS, u_met, u_calO, u_orT, u_tupIt, u_dc, u_maxDd, u_dnew, u_tupi, ix_p0, ix_p1, wSl, woNone, woSome]))
  refine ⟨by decide, by decide, by decide, by decide, by decide, by decide, by decide, by decide, ?_⟩
  ((try dsimp only); rw [u_seq]; (try simp only [u_asg, u_gN, u_ret, u_retN, u_skip, u_expr, u_ifs, u_c, u_op, u_neg, u_test, u_and, u_or, u_not, u_if, u_nil, u_cons, u_tup, u_lst, u_callP, u_call, u_b, u_chain, u_andV, u_addI, u_subI, u_mulI, u_divI, u_modI, u_powI, u_cmpI, u_eqI, u_eqS, u_eqB, u_abs, u_intI, u_intB, u_newT, u_newF, u_isN, u_notN, wVar, List.set_cons_zero, List.set_cons_succ, List.getElem?_cons_zero, List.getElem?_cons_succ, List.length_cons, List.length_nil, u_lc, u_for, u_r1, u_r2, u_r3, u_num, u_notV, u_yes, u_w0, u_w1, u_dput, u_get2, u_dget, u_prop, u_fld, u_setF, u_make, u_makeS, u_met, u_calO, u_orT, u_tupIt, u_dc, u_maxDd, u_dnew, u_tupi, ix_p0, ix_p1, wSl, woNone, woSome]))
  refine ⟨by decide, by decide, ?_⟩
  have e3 : [D.tup [.str "repeat", .int 3, .tup [.tup [.str "write", .int 2], .tup [.str "repeat", .int 0, .tup [.tup [.str "line"]]], .tup [.str "fork", .tup [.tup [.str "write", .int 5]]]]], .tup [.str "line"]] = encs bEnd := by
    simp [bEnd, bIn, encs, enc]
  rw [e3]
  refine fun a ha => made_go (lm := false) f2 ⟨rfl, _, up_same, ?_⟩
  rw [rm_up, rm_none ha]
  try simp only [u_asg, u_gN, u_ret, u_retN, u_skip, u_expr, u_ifs, u_c, u_op, u_neg, u_test, u_and, u_or, u_not, u_if, u_nil, u_cons, u_tup, u_lst, u_callP, u_call, u_b, u_chain, u_andV, u_addI, u_subI, u_mulI, u_divI, u_modI, u_powI, u_cmpI, u_eqI, u_eqS, u_eqB, u_abs, u_intI, u_intB, u_newT, u_newF, u_isN, u_notN, wVar, List.set_cons_zero, List.set_cons_succ, List.getElem?_cons_zero, List.getElem?_cons_succ, List.length_cons, List.length_nil, u_lc, u_for, u_r1, u_r2, u_r3, u_num, u_notV, u_yes, u_w0, u_w1, u_dput, u_get2, u_dget, u_prop, u_fld, u_setF, u_make, u_makeS, u_met, u_calO, u_orT, u_tupIt, u_dc, u_maxDd, u_dnew, u_tupi, ix_p0, ix_p1, wSl, woNone, woSome]
  refine go_prop (lm := false) (b := bEnd) rfl ⟨false, bEnd, rfl, f2.ok, f2.dpt, ?_⟩
  refine go_prop (lm := false) (b := bEnd) rfl ⟨false, bEnd, rfl, f2.ok, f2.dpt, ?_⟩
  rw [bEnd_siz, bEnd_rch]
  have f0 : Fit [] := ⟨rfl, by decide, by decide, by decide, by decide⟩
  refine .inl ?_
  try simp only [u_prop, u_asg, u_gN, u_ret, u_retN, u_skip, u_expr, u_ifs, u_c, u_op, u_neg, u_test, u_and, u_or, u_not, u_if, u_nil, u_cons, u_tup, u_lst, u_callP, u_call, u_b, u_chain, u_andV, u_addI, u_subI, u_mulI, u_divI, u_modI, u_powI, u_cmpI, u_eqI, u_eqS, u_eqB, u_abs, u_intI, u_intB, u_newT, u_newF, u_isN, u_notN, wVar, List.set_cons_zero, List.set_cons_succ, List.getElem?_cons_zero, List.getElem?_cons_succ, List.length_cons, List.length_nil, u_lc, u_for, u_r1, u_r2, u_r3, u_num, u_notV, u_yes, u_w0, u_w1, u_dput, u_get2, u_dget, u_prop, u_fld, u_setF, u_make, u_makeS, u_met, u_calO, u_orT, u_tupIt, u_dc, u_maxDd, u_dnew, u_tupi, ix_p0, ix_p1, wSl, woNone, woSome]
  refine fun a ha => made_go (lm := false) (b := []) f0 ⟨rfl, _, up_same, ?_⟩
  rw [rm_up, rm_none ha]
  refine ⟨⟨_, rfl⟩, false, [], rfl, ⟨rfl, by decide, by decide⟩, ?_⟩
  refine .inl ?_
  try simp only [u_prop, u_asg, u_gN, u_ret, u_retN, u_skip, u_expr, u_ifs, u_c, u_op, u_neg, u_test, u_and, u_or, u_not, u_if, u_nil, u_cons, u_tup, u_lst, u_callP, u_call, u_b, u_chain, u_andV, u_addI, u_subI, u_mulI, u_divI, u_modI, u_powI, u_cmpI, u_eqI, u_eqS, u_eqB, u_abs, u_intI, u_intB, u_newT, u_newF, u_isN, u_notN, wVar, List.set_cons_zero, List.set_cons_succ, List.getElem?_cons_zero, List.getElem?_cons_succ, List.length_cons, List.length_nil, u_lc, u_for, u_r1, u_r2, u_r3, u_num, u_notV, u_yes, u_w0, u_w1, u_dput, u_get2, u_dget, u_prop, u_fld, u_setF, u_make, u_makeS, u_met, u_calO, u_orT, u_tupIt, u_dc, u_maxDd, u_dnew, u_tupi, ix_p0, ix_p1, wSl, woNone, woSome]
  refine fun a ha => made_go (lm := false) (b := []) f0 ⟨rfl, _, up_same, ?_⟩
  rw [rm_up, rm_none ha]
  refine ⟨⟨_, rfl⟩, false, [], rfl, rfl, by decide, ?_⟩
  rw [unrB, encs, sizB]
  refine ⟨by decide, by decide, by decide, ?_⟩
  exact same_lst (fl_lst (k := 1) fun x hx => by
    have : x = .int 10 ∨ x = .int 11 ∨ x = .tup [] ∨ x = .int 0 := by simpa using hx
    rcases this with rfl | rfl | rfl | rfl
    · exact (fl_int _).up (by decide)
    · exact (fl_int _).up (by decide)
    · exact fl_tup (k := 0) fun x hx => by cases hx
    · exact (fl_int _).up (by decide)) (by decide) (q _)
end K06
namespace K06
open PySem PySem.Spec L2 C8 DL PK PyProof.Rows
/-! ### the text by places (printed by gen4.py) -/
def top (i : Nat) : Stmt := PySem.Challenge.pw_forkecho_k06_bodies_unrolled.main.body.getD i (.Pass ⟨0, 0, 0, 0⟩)
abbrev s_is_integer : Stmt := top 19
abbrev s_is_between : Stmt := top 20
abbrev s_is_head : Stmt := top 32
abbrev s_inner_of : Stmt := top 33
abbrev s_bytes_of : Stmt := top 34
abbrev s_walked : Stmt := top 36
abbrev s_wrong_in : Stmt := top 37
abbrev s_first_wrong : Stmt := top 38
abbrev s_size_in : Stmt := top 39
abbrev s_bytes_in : Stmt := top 40
abbrev s_reach_in : Stmt := top 41
abbrev s_unrolled_in : Stmt := top 42
abbrev s_words_in : Stmt := top 43
abbrev s_Program___init__ : Stmt := inClass (top 63) 5
abbrev s_Program_of : Stmt := inClass (top 63) 6
abbrev s_Program_body : Stmt := inClass (top 63) 8
abbrev s_Program_size : Stmt := inClass (top 63) 10
abbrev s_Program_reach : Stmt := inClass (top 63) 11
abbrev s_Program_unrolled : Stmt := inClass (top 63) 12
abbrev s_Program_words : Stmt := inClass (top 63) 13
abbrev s__law_pen : Stmt := top 67
abbrev s__law_draw : Stmt := top 68
abbrev s__law_deeds : Stmt := top 69
abbrev s__law_words : Stmt := top 70
abbrev s__law_bulk : Stmt := top 71
abbrev s__law_size : Stmt := top 72
abbrev s__law_far : Stmt := top 73
abbrev s__law_fitting : Stmt := top 74
abbrev s__law_job : Stmt := top 75
abbrev s__law_flat : Stmt := top 76
abbrev s__law_all_words : Stmt := top 77
abbrev s__law_most : Stmt := top 78
abbrev s_law : Stmt := top 79
theorem sc_is_integer : FnScope PK.N_is_integer ["value"] (defScope s_is_integer) := ⟨rfl, rfl, rfl, by decide +kernel, rfl, by decide +kernel, by decide +kernel⟩
theorem sc_is_between : FnScope PK.N_is_between ["value", "least", "most"] (defScope s_is_between) := ⟨rfl, rfl, rfl, by decide +kernel, rfl, by decide +kernel, by decide +kernel⟩
theorem sc_is_head : FnScope PK.N_is_head ["value"] (defScope s_is_head) := ⟨rfl, rfl, rfl, by decide +kernel, rfl, by decide +kernel, by decide +kernel⟩
theorem sc_inner_of : FnScope PK.N_inner_of ["action"] (defScope s_inner_of) := ⟨rfl, rfl, rfl, by decide +kernel, rfl, by decide +kernel, by decide +kernel⟩
theorem sc_bytes_of : FnScope PK.N_bytes_of ["action"] (defScope s_bytes_of) := ⟨rfl, rfl, rfl, by decide +kernel, rfl, by decide +kernel, by decide +kernel⟩
theorem sc_walked : FnScope PK.N_walked ["body", "place"] (defScope s_walked) := ⟨rfl, rfl, rfl, by decide +kernel, rfl, by decide +kernel, by decide +kernel⟩
theorem sc_wrong_in : FnScope PK.N_wrong_in ["body", "place", "count"] (defScope s_wrong_in) := ⟨rfl, rfl, rfl, by decide +kernel, rfl, by decide +kernel, by decide +kernel⟩
theorem sc_first_wrong : FnScope PK.N_first_wrong ["body"] (defScope s_first_wrong) := ⟨rfl, rfl, rfl, by decide +kernel, rfl, by decide +kernel, by decide +kernel⟩
theorem sc_size_in : FnScope PK.N_size_in ["body"] (defScope s_size_in) := ⟨rfl, rfl, rfl, by decide +kernel, rfl, by decide +kernel, by decide +kernel⟩
theorem sc_bytes_in : FnScope PK.N_bytes_in ["body"] (defScope s_bytes_in) := ⟨rfl, rfl, rfl, by decide +kernel, rfl, by decide +kernel, by decide +kernel⟩
theorem sc_reach_in : FnScope PK.N_reach_in ["body"] (defScope s_reach_in) := ⟨rfl, rfl, rfl, by decide +kernel, rfl, by decide +kernel, by decide +kernel⟩
theorem sc_unrolled_in : FnScope PK.N_unrolled_in ["body"] (defScope s_unrolled_in) := ⟨rfl, rfl, rfl, by decide +kernel, rfl, by decide +kernel, by decide +kernel⟩
theorem sc_words_in : FnScope PK.N_words_in ["body"] (defScope s_words_in) := ⟨rfl, rfl, rfl, by decide +kernel, rfl, by decide +kernel, by decide +kernel⟩
theorem sc_Program___init__ : FnScope PK.N_Program___init__ ["self", "actions"] (defScope s_Program___init__) := ⟨rfl, rfl, rfl, by decide +kernel, rfl, by decide +kernel, by decide +kernel⟩
theorem sc_Program_of : FnScope PK.N_Program_of ["cls", "body"] (defScope s_Program_of) := ⟨rfl, rfl, rfl, by decide +kernel, rfl, by decide +kernel, by decide +kernel⟩
theorem sc_Program_body : FnScope PK.N_Program_body ["self"] (defScope s_Program_body) := ⟨rfl, rfl, rfl, by decide +kernel, rfl, by decide +kernel, by decide +kernel⟩
theorem sc_Program_size : FnScope PK.N_Program_size ["self"] (defScope s_Program_size) := ⟨rfl, rfl, rfl, by decide +kernel, rfl, by decide +kernel, by decide +kernel⟩
theorem sc_Program_reach : FnScope PK.N_Program_reach ["self"] (defScope s_Program_reach) := ⟨rfl, rfl, rfl, by decide +kernel, rfl, by decide +kernel, by decide +kernel⟩
theorem sc_Program_unrolled : FnScope PK.N_Program_unrolled ["self"] (defScope s_Program_unrolled) := ⟨rfl, rfl, rfl, by decide +kernel, rfl, by decide +kernel, by decide +kernel⟩
theorem sc_Program_words : FnScope PK.N_Program_words ["self"] (defScope s_Program_words) := ⟨rfl, rfl, rfl, by decide +kernel, rfl, by decide +kernel, by decide +kernel⟩
theorem sc__law_pen : FnScope F1.N__law_pen ["_law_script"] (defScope s__law_pen) := ⟨rfl, rfl, rfl, by decide +kernel, rfl, by decide +kernel, by decide +kernel⟩
theorem sc__law_draw : FnScope F1.N__law_draw ["_law_pen_here", "_law_bound"] (defScope s__law_draw) := ⟨rfl, rfl, rfl, by decide +kernel, rfl, by decide +kernel, by decide +kernel⟩
theorem sc__law_deeds : FnScope F1.N__law_deeds ["_law_pen_here", "_law_deep", "_law_words_here", "_law_most_here"] (defScope s__law_deeds) := ⟨rfl, rfl, rfl, by decide +kernel, rfl, by decide +kernel, by decide +kernel⟩
theorem sc__law_words : FnScope F1.N__law_words ["_law_pen_here"] (defScope s__law_words) := ⟨rfl, rfl, rfl, by decide +kernel, rfl, by decide +kernel, by decide +kernel⟩
theorem sc__law_bulk : FnScope F1.N__law_bulk ["_law_act"] (defScope s__law_bulk) := ⟨rfl, rfl, rfl, by decide +kernel, rfl, by decide +kernel, by decide +kernel⟩
theorem sc__law_size : FnScope F1.N__law_size ["_law_deeds_here"] (defScope s__law_size) := ⟨rfl, rfl, rfl, by decide +kernel, rfl, by decide +kernel, by decide +kernel⟩
theorem sc__law_far : FnScope F1.N__law_far ["_law_deeds_here"] (defScope s__law_far) := ⟨rfl, rfl, rfl, by decide +kernel, rfl, by decide +kernel, by decide +kernel⟩
theorem sc__law_fitting : FnScope F1.N__law_fitting ["_law_deeds_here", "_law_points", "_law_reach"] (defScope s__law_fitting) := ⟨rfl, rfl, rfl, by decide +kernel, rfl, by decide +kernel, by decide +kernel⟩
theorem sc__law_job : FnScope F1.N__law_job ["_law_pen_here"] (defScope s__law_job) := ⟨rfl, rfl, rfl, by decide +kernel, rfl, by decide +kernel, by decide +kernel⟩
theorem sc__law_flat : FnScope F1.N__law_flat ["_law_deeds_here"] (defScope s__law_flat) := ⟨rfl, rfl, rfl, by decide +kernel, rfl, by decide +kernel, by decide +kernel⟩
theorem sc__law_all_words : FnScope F1.N__law_all_words ["_law_deeds_here"] (defScope s__law_all_words) := ⟨rfl, rfl, rfl, by decide +kernel, rfl, by decide +kernel, by decide +kernel⟩
theorem sc__law_most : FnScope N__law_most ["_law_flat_here", "_law_here"] (defScope s__law_most) := ⟨rfl, rfl, rfl, by decide +kernel, rfl, by decide +kernel, by decide +kernel⟩
theorem sc_law : FnScope N_law ["_law_script"] (defScope s_law) := ⟨rfl, rfl, rfl, by decide +kernel, rfl, by decide +kernel, by decide +kernel⟩
/-- what the module's names hold -/
structure Txt (K : PySem.W.Frag) (mg : Str → Option Value) (z : Ad) : Prop where
  k_LineProgram : Cls K z.LineProgram
  k_Program : Cls K z.Program
  n_LineProgram_held : NoAttr K z.LineProgram "held"
  n_Program_held : NoAttr K z.Program "held"
  v_LineProgram : Cst K mg "LineProgram" (.ref z.LineProgram)
  v_Program : Cst K mg "Program" (.ref z.Program)
  z_abs : mg "abs" = none
  z_bool : mg "bool" = none
  z_enumerate : mg "enumerate" = none
  z_int : mg "int" = none
  z_isinstance : mg "isinstance" = none
  z_len : mg "len" = none
  z_list : mg "list" = none
  z_max : mg "max" = none
  z_range : mg "range" = none
  z_repr : mg "repr" = none
  z_str : mg "str" = none
  z_tuple : mg "tuple" = none
  c_BARE : Cst K mg "BARE" (.tup [(.str "line"), (.str "flush"), (.str "drop"), (.str "both"), (.str "exit"), (.str "quit")])
  c_FORK : Cst K mg "FORK" (.str "fork")
  c_LINE : Cst K mg "LINE" (.str "line")
  c_MOST_ACTIONS : Cst K mg "MOST_ACTIONS" (.int 300)
  c_MOST_BYTES : Cst K mg "MOST_BYTES" (.int 2000)
  c_MOST_BYTES_HERE : Cst K mg "MOST_BYTES_HERE" (.int 2000)
  c_MOST_DEPTH : Cst K mg "MOST_DEPTH" (.int 6)
  c_MOST_POINTS_HERE : Cst K mg "MOST_POINTS_HERE" (.int 2000)
  c_MOST_TURNS : Cst K mg "MOST_TURNS" (.int 300)
  c_REPEAT : Cst K mg "REPEAT" (.str "repeat")
  c_WRITE : Cst K mg "WRITE" (.str "write")
/-! ### the derivations -/
section
variable {P : Program} {w : World} {K : PySem.W.Frag} {mg : Str → Option Value} {base : Heap}
theorem d_is_integer {z : Ad} (T : Txt K mg z)  {f : Addr} (cdv : Value) (A : Around) (outer : List PySem.Env) (s : Shared) (H : Hp) (E : XK) (c : Cg false (cxOf (L2.CX P w) P w K mg base PK.N_is_integer "is_integer" (defScope s_is_integer) f cdv A outer s H E) E 0) :
    ASs (cxOf (L2.CX P w) P w K mg base PK.N_is_integer "is_integer" (defScope s_is_integer) f cdv A outer s H E) E (defBody s_is_integer) (PK.w_is_integer z) :=
  (ass_one (as_ret (ae_and (ae_b dIsi_ok T.z_isinstance bb_isinstance (aa_cons (ae_var 0) (aa_cons (ae_ty T.z_int bb_int) aa_nil))) (ae_one (ae_not (ae_b dIsi_ok T.z_isinstance bb_isinstance (aa_cons (ae_var 0) (aa_cons (ae_ty T.z_bool bb_bool) aa_nil))))))))
theorem d_is_between {z : Ad} (T : Txt K mg z) (C_is_integer : Cal false P w K mg base "is_integer" 1 1 [] (fun ds _ => ds) (PK.S_is_integer z)) {f : Addr} (cdv : Value) (A : Around) (outer : List PySem.Env) (s : Shared) (H : Hp) (E : XK) (c : Cg false (cxOf (L2.CX P w) P w K mg base PK.N_is_between "is_between" (defScope s_is_between) f cdv A outer s H E) E 1) :
    ASs (cxOf (L2.CX P w) P w K mg base PK.N_is_between "is_between" (defScope s_is_between) f cdv A outer s H E) E (defBody s_is_between) (PK.w_is_between z) :=
  (ass_one (as_ret (ae_and (ae_call c C_is_integer (by decide) (by decide) (aa_cons (ae_var 0) aa_nil)) (ae_one (ae_chain2 dCmpI_ok dCmpI_ok op_le op_le (ae_var 1) (ae_var 0) (ae_var 2))))))
theorem d_is_head {z : Ad} (T : Txt K mg z) (C_is_between : Cal false P w K mg base "is_between" 2 3 [] (fun ds _ => ds) (PK.S_is_between z)) {f : Addr} (cdv : Value) (A : Around) (outer : List PySem.Env) (s : Shared) (H : Hp) (E : XK) (c : Cg false (cxOf (L2.CX P w) P w K mg base PK.N_is_head "is_head" (defScope s_is_head) f cdv A outer s H E) E 2) :
    ASs (cxOf (L2.CX P w) P w K mg base PK.N_is_head "is_head" (defScope s_is_head) f cdv A outer s H E) E (defBody s_is_head) (PK.w_is_head z) :=
  (ass_cons (as_if (AW.at (aw_or (at_not (at_val (ae_b dIsi_ok T.z_isinstance bb_isinstance (aa_cons (ae_var 0) (aa_cons (ae_ty T.z_tuple bb_tuple) aa_nil))))) (aw_or (at_eq c (ae_b dLen_ok T.z_len bb_len (aa_cons (ae_var 0) aa_nil)) ae_int) (aw_or1 (at_not (at_val (ae_b dIsi_ok T.z_isinstance bb_isinstance (aa_cons (ae_ix (ae_var 0) ae_int) (aa_cons (ae_ty T.z_str bb_str) aa_nil))))))))) (ass_one (as_ret ae_bl)) ass_nil)
    (ass_cons (as_asg (ae_var 0) (ag_starT c.calm (ags_cons (ag_name 1 c.nd) (ags_star (ag_name 2 c.nd) ags_nil))))
    (ass_cons (as_if (at_in (ae_var 1) (ae_glob T.c_BARE)) (ass_one (as_ret (ae_eq c (ae_b dLen_ok T.z_len bb_len (aa_cons (ae_var 2) aa_nil)) ae_int))) ass_nil)
    (ass_cons (as_if (at_eq c (ae_var 1) (ae_glob T.c_WRITE)) (ass_one (as_ret (ae_and (ae_eq c (ae_b dLen_ok T.z_len bb_len (aa_cons (ae_var 2) aa_nil)) ae_int) (ae_one (ae_call c C_is_between (by decide) (by decide) (aa_cons (ae_ix (ae_var 2) ae_int) (aa_cons ae_int (aa_cons (ae_glob T.c_MOST_BYTES) aa_nil)))))))) ass_nil)
    (ass_cons (as_if (at_eq c (ae_var 1) (ae_glob T.c_FORK)) (ass_one (as_ret (ae_and (ae_eq c (ae_b dLen_ok T.z_len bb_len (aa_cons (ae_var 2) aa_nil)) ae_int) (ae_one (ae_b dIsi_ok T.z_isinstance bb_isinstance (aa_cons (ae_ix (ae_var 2) ae_int) (aa_cons (ae_ty T.z_tuple bb_tuple) aa_nil))))))) ass_nil)
    (ass_one (as_ret (ae_and (ae_eq c (ae_var 1) (ae_glob T.c_REPEAT)) (ae_and (ae_eq c (ae_b dLen_ok T.z_len bb_len (aa_cons (ae_var 2) aa_nil)) ae_int) (ae_and (ae_call c C_is_between (by decide) (by decide) (aa_cons (ae_ix (ae_var 2) ae_int) (aa_cons ae_int (aa_cons (ae_glob T.c_MOST_TURNS) aa_nil)))) (ae_one (ae_b dIsi_ok T.z_isinstance bb_isinstance (aa_cons (ae_ix (ae_var 2) ae_int) (aa_cons (ae_ty T.z_tuple bb_tuple) aa_nil))))))))))))))
theorem d_inner_of {z : Ad} (T : Txt K mg z)  {f : Addr} (cdv : Value) (A : Around) (outer : List PySem.Env) (s : Shared) (H : Hp) (E : XK) (c : Cg false (cxOf (L2.CX P w) P w K mg base PK.N_inner_of "inner_of" (defScope s_inner_of) f cdv A outer s H E) E 0) :
    ASs (cxOf (L2.CX P w) P w K mg base PK.N_inner_of "inner_of" (defScope s_inner_of) f cdv A outer s H E) E (defBody s_inner_of) (PK.w_inner_of z) :=
  (ass_one (as_ret (ae_if (at_in (ae_ix (ae_var 0) ae_int) (ae_tup (aa_cons (ae_glob T.c_FORK) (aa_cons (ae_glob T.c_REPEAT) aa_nil)))) (ae_ix (ae_var 0) (ae_neg ae_int)) (ae_tup aa_nil))))
theorem d_bytes_of {z : Ad} (T : Txt K mg z)  {f : Addr} (cdv : Value) (A : Around) (outer : List PySem.Env) (s : Shared) (H : Hp) (E : XK) (c : Cg false (cxOf (L2.CX P w) P w K mg base PK.N_bytes_of "bytes_of" (defScope s_bytes_of) f cdv A outer s H E) E 0) :
    ASs (cxOf (L2.CX P w) P w K mg base PK.N_bytes_of "bytes_of" (defScope s_bytes_of) f cdv A outer s H E) E (defBody s_bytes_of) (PK.w_bytes_of z) :=
  (ass_cons (as_if (at_eq c (ae_ix (ae_var 0) ae_int) (ae_glob T.c_WRITE)) (ass_one (as_ret (ae_ix (ae_var 0) ae_int))) ass_nil)
    (ass_one (as_ret (ae_if (at_eq c (ae_ix (ae_var 0) ae_int) (ae_glob T.c_LINE)) ae_int ae_int))))
theorem d_walked {z : Ad} (T : Txt K mg z) (n : Nat) (C_inner_of : Cal false P w K mg base "inner_of" 1 1 [] (fun ds _ => ds) (PK.S_inner_of z)) (C_walked : Cal false P w K mg base "walked" (1 + n) 2 [] (fun ds _ => ds) (PK.S_walked z n)) {f : Addr} (cdv : Value) (A : Around) (outer : List PySem.Env) (s : Shared) (H : Hp) (E : XK) (c : Cg false (cxOf (L2.CX P w) P w K mg base PK.N_walked "walked" (defScope s_walked) f cdv A outer s H E) E (1 + n)) :
    ASs (cxOf (L2.CX P w) P w K mg base PK.N_walked "walked" (defScope s_walked) f cdv A outer s H E) E (defBody s_walked) (PK.w_walked z n) :=
  (ass_cons (as_set 2 c.nd (ae_lst false aa_nil))
    (ass_cons (as_for c (ai_num T.z_enumerate (aa_cons (ae_var 0) aa_nil)) (ag_tup c.calm (ags_cons (ag_name 3 c.nd) (ags_cons (ag_name 4 c.nd) ags_nil))) (ass_cons (as_set 5 c.nd (ae_tup (aa_star (ae_var 1) (aa_cons (ae_var 3) aa_nil))))
    (ass_cons (as_set 6 c.nd (ae_call c C_walked (by omega) (by decide) (aa_cons (ae_call c C_inner_of (by omega) (by decide) (aa_cons (ae_var 4) aa_nil)) (aa_cons (ae_var 5) aa_nil))))
    (ass_one (as_set 2 c.nd (ae_lst false (aa_star (ae_var 2) (aa_cons (ae_tup (aa_cons (ae_var 5) (aa_cons (ae_var 4) aa_nil))) (aa_star (ae_var 6) aa_nil)))))))))
    (ass_one (as_ret (ae_var 2)))))
theorem d_wrong_in {z : Ad} (T : Txt K mg z) (n : Nat) (C_inner_of : Cal false P w K mg base "inner_of" 1 1 [] (fun ds _ => ds) (PK.S_inner_of z)) (C_is_head : Cal false P w K mg base "is_head" 3 1 [] (fun ds _ => ds) (PK.S_is_head z)) (C_wrong_in : Cal false P w K mg base "wrong_in" (3 + n) 3 [] (fun ds _ => ds) (PK.S_wrong_in z n)) {f : Addr} (cdv : Value) (A : Around) (outer : List PySem.Env) (s : Shared) (H : Hp) (E : XK) (c : Cg false (cxOf (L2.CX P w) P w K mg base PK.N_wrong_in "wrong_in" (defScope s_wrong_in) f cdv A outer s H E) E (3 + n)) :
    ASs (cxOf (L2.CX P w) P w K mg base PK.N_wrong_in "wrong_in" (defScope s_wrong_in) f cdv A outer s H E) E (defBody s_wrong_in) (PK.w_wrong_in z n) :=
  (ass_cons (as_for c (ai_num T.z_enumerate (aa_cons (ae_var 0) aa_nil)) (ag_tup c.calm (ags_cons (ag_name 3 c.nd) (ags_cons (ag_name 4 c.nd) ags_nil))) (ass_cons (as_set 5 c.nd (ae_tup (aa_star (ae_var 1) (aa_cons (ae_var 3) aa_nil))))
    (ass_cons (as_set 2 c.nd (ae_add false (ae_var 2) ae_int))
    (ass_cons (as_if (AW.at (aw_or (at_not (at_val (ae_call c C_is_head (by omega) (by decide) (aa_cons (ae_var 4) aa_nil)))) (aw_or (at_gt (ae_b dLen_ok T.z_len bb_len (aa_cons (ae_var 5) aa_nil)) (ae_glob T.c_MOST_DEPTH)) (aw_or1 (at_gt (ae_var 2) (ae_glob T.c_MOST_ACTIONS)))))) (ass_one (as_ret (ae_tup (aa_cons (ae_var 5) (aa_cons (ae_var 2) aa_nil))))) ass_nil)
    (ass_cons (as_asg (ae_call c C_wrong_in (by omega) (by decide) (aa_cons (ae_call c C_inner_of (by omega) (by decide) (aa_cons (ae_var 4) aa_nil)) (aa_cons (ae_var 5) (aa_cons (ae_var 2) aa_nil)))) (ag_tup c.calm (ags_cons (ag_name 6 c.nd) (ags_cons (ag_name 2 c.nd) ags_nil))))
    (ass_one (as_if (at_isnot (ae_var 6) ae_non) (ass_one (as_ret (ae_tup (aa_cons (ae_var 6) (aa_cons (ae_var 2) aa_nil))))) ass_nil)))))))
    (ass_one (as_ret (ae_tup (aa_cons ae_non (aa_cons (ae_var 2) aa_nil))))))
theorem d_first_wrong {z : Ad} (T : Txt K mg z) (C_wrong_in : Cal false P w K mg base "wrong_in" 19 3 [] (fun ds _ => ds) (PK.S_wrong_in z 16)) {f : Addr} (cdv : Value) (A : Around) (outer : List PySem.Env) (s : Shared) (H : Hp) (E : XK) (c : Cg false (cxOf (L2.CX P w) P w K mg base PK.N_first_wrong "first_wrong" (defScope s_first_wrong) f cdv A outer s H E) E 19) :
    ASs (cxOf (L2.CX P w) P w K mg base PK.N_first_wrong "first_wrong" (defScope s_first_wrong) f cdv A outer s H E) E (defBody s_first_wrong) (PK.w_first_wrong z) :=
  (ass_one (as_ret (ae_ix (ae_call c C_wrong_in (by decide) (by decide) (aa_cons (ae_var 0) (aa_cons (ae_tup aa_nil) (aa_cons ae_int aa_nil)))) ae_int)))
theorem d_size_in {z : Ad} (T : Txt K mg z) (n : Nat) (C_inner_of : Cal false P w K mg base "inner_of" 1 1 [] (fun ds _ => ds) (PK.S_inner_of z)) (C_size_in : Cal false P w K mg base "size_in" (1 + n) 1 [] (fun ds _ => ds) (PK.S_size_in z n)) {f : Addr} (cdv : Value) (A : Around) (outer : List PySem.Env) (s : Shared) (H : Hp) (E : XK) (c : Cg false (cxOf (L2.CX P w) P w K mg base PK.N_size_in "size_in" (defScope s_size_in) f cdv A outer s H E) E (1 + n)) :
    ASs (cxOf (L2.CX P w) P w K mg base PK.N_size_in "size_in" (defScope s_size_in) f cdv A outer s H E) E (defBody s_size_in) (PK.w_size_in z n) :=
  (ass_cons (as_set 1 c.nd ae_int)
    (ass_cons (as_for c (ai_tup (ae_var 0)) (ag_name 2 c.nd) (ass_cons (as_set 3 c.nd (ae_call c C_size_in (by omega) (by decide) (aa_cons (ae_call c C_inner_of (by omega) (by decide) (aa_cons (ae_var 2) aa_nil)) aa_nil)))
    (ass_one (as_set 1 c.nd (ae_add false (ae_var 1) (ae_if (at_eq c (ae_ix (ae_var 2) ae_int) (ae_glob T.c_REPEAT)) (ae_mul false (ae_ix (ae_var 2) ae_int) (ae_var 3)) (ae_add false ae_int (ae_var 3))))))))
    (ass_one (as_ret (ae_var 1)))))
theorem d_bytes_in {z : Ad} (T : Txt K mg z) (n : Nat) (C_bytes_in : Cal false P w K mg base "bytes_in" (1 + n) 1 [] (fun ds _ => ds) (PK.S_bytes_in z n)) (C_bytes_of : Cal false P w K mg base "bytes_of" 1 1 [] (fun ds _ => ds) (PK.S_bytes_of z)) {f : Addr} (cdv : Value) (A : Around) (outer : List PySem.Env) (s : Shared) (H : Hp) (E : XK) (c : Cg false (cxOf (L2.CX P w) P w K mg base PK.N_bytes_in "bytes_in" (defScope s_bytes_in) f cdv A outer s H E) E (1 + n)) :
    ASs (cxOf (L2.CX P w) P w K mg base PK.N_bytes_in "bytes_in" (defScope s_bytes_in) f cdv A outer s H E) E (defBody s_bytes_in) (PK.w_bytes_in z n) :=
  (ass_cons (as_set 1 c.nd ae_int)
    (ass_cons (as_for c (ai_tup (ae_var 0)) (ag_name 2 c.nd) (ass_one (as_set 1 c.nd (ae_add false (ae_var 1) (ae_if (at_eq c (ae_ix (ae_var 2) ae_int) (ae_glob T.c_REPEAT)) (ae_mul false (ae_ix (ae_var 2) ae_int) (ae_call c C_bytes_in (by omega) (by decide) (aa_cons (ae_ix (ae_var 2) ae_int) aa_nil))) (ae_call c C_bytes_of (by omega) (by decide) (aa_cons (ae_var 2) aa_nil)))))))
    (ass_one (as_ret (ae_var 1)))))
theorem d_reach_in {z : Ad} (T : Txt K mg z) (n : Nat) (C_bytes_in : Cal false P w K mg base "bytes_in" 17 1 [] (fun ds _ => ds) (PK.S_bytes_in z 16)) (C_bytes_of : Cal false P w K mg base "bytes_of" 1 1 [] (fun ds _ => ds) (PK.S_bytes_of z)) (C_reach_in : Cal false P w K mg base "reach_in" (17 + n) 1 [] (fun ds _ => ds) (PK.S_reach_in z n)) {f : Addr} (cdv : Value) (A : Around) (outer : List PySem.Env) (s : Shared) (H : Hp) (E : XK) (c : Cg false (cxOf (L2.CX P w) P w K mg base PK.N_reach_in "reach_in" (defScope s_reach_in) f cdv A outer s H E) E (17 + n)) :
    ASs (cxOf (L2.CX P w) P w K mg base PK.N_reach_in "reach_in" (defScope s_reach_in) f cdv A outer s H E) E (defBody s_reach_in) (PK.w_reach_in z n) :=
  (ass_cons (as_set 1 c.nd ae_int)
    (ass_cons (as_set 2 c.nd ae_int)
    (ass_cons (as_for c (ai_tup (ae_var 0)) (ag_name 3 c.nd) (ass_one (as_if (at_eq c (ae_ix (ae_var 3) ae_int) (ae_glob T.c_FORK)) (ass_one (as_set 2 c.nd (ae_b (dMax2_ok c.calm) T.z_max bb_max (aa_cons (ae_var 2) (aa_cons (ae_add false (ae_var 1) (ae_call c C_reach_in (by omega) (by decide) (aa_cons (ae_ix (ae_var 3) ae_int) aa_nil))) aa_nil))))) (ass_one (as_if (AW.at (aw_and (at_eq c (ae_ix (ae_var 3) ae_int) (ae_glob T.c_REPEAT)) (aw_and1 (at_gt (ae_ix (ae_var 3) ae_int) ae_int)))) (ass_cons (as_set 4 c.nd (ae_call c C_bytes_in (by omega) (by decide) (aa_cons (ae_ix (ae_var 3) ae_int) aa_nil)))
    (ass_cons (as_set 2 c.nd (ae_b (dMax2_ok c.calm) T.z_max bb_max (aa_cons (ae_var 2) (aa_cons (ae_add false (ae_add false (ae_var 1) (ae_mul false (ae_sub (ae_ix (ae_var 3) ae_int) ae_int) (ae_var 4))) (ae_call c C_reach_in (by omega) (by decide) (aa_cons (ae_ix (ae_var 3) ae_int) aa_nil))) aa_nil))))
    (ass_one (as_set 1 c.nd (ae_add false (ae_var 1) (ae_mul false (ae_ix (ae_var 3) ae_int) (ae_var 4))))))) (ass_one (as_set 1 c.nd (ae_add false (ae_var 1) (ae_call c C_bytes_of (by omega) (by decide) (aa_cons (ae_var 3) aa_nil))))))))))
    (ass_one (as_ret (ae_b (dMax2_ok c.calm) T.z_max bb_max (aa_cons (ae_var 2) (aa_cons (ae_var 1) aa_nil))))))))
theorem d_unrolled_in {z : Ad} (T : Txt K mg z) (n : Nat) (C_unrolled_in : Cal false P w K mg base "unrolled_in" (0 + n) 1 [] (fun ds _ => ds) (PK.S_unrolled_in z n)) {f : Addr} (cdv : Value) (A : Around) (outer : List PySem.Env) (s : Shared) (H : Hp) (E : XK) (c : Cg false (cxOf (L2.CX P w) P w K mg base PK.N_unrolled_in "unrolled_in" (defScope s_unrolled_in) f cdv A outer s H E) E (0 + n)) :
    ASs (cxOf (L2.CX P w) P w K mg base PK.N_unrolled_in "unrolled_in" (defScope s_unrolled_in) f cdv A outer s H E) E (defBody s_unrolled_in) (PK.w_unrolled_in z n) :=
  (ass_cons (as_set 1 c.nd (ae_lst true aa_nil))
    (ass_cons (as_for c (ai_tup (ae_var 0)) (ag_name 2 c.nd) (ass_one (as_if (at_eq c (ae_ix (ae_var 2) ae_int) (ae_glob T.c_REPEAT)) (ass_one (as_expr (ae_extend (ae_var 1) (aa_cons (ae_mul false (ae_bt (dListOf_ok (m := false)) T.z_list bb_list (aa_cons (ae_call c C_unrolled_in (by omega) (by decide) (aa_cons (ae_ix (ae_var 2) ae_int) aa_nil)) aa_nil)) (ae_ix (ae_var 2) ae_int)) aa_nil)))) (ass_one (as_expr (ae_append (ae_var 1) (aa_cons (ae_if (at_eq c (ae_ix (ae_var 2) ae_int) (ae_glob T.c_FORK)) (ae_tup (aa_cons (ae_glob T.c_FORK) (aa_cons (ae_call c C_unrolled_in (by omega) (by decide) (aa_cons (ae_ix (ae_var 2) ae_int) aa_nil)) aa_nil))) (ae_var 2)) aa_nil)))))))
    (ass_one (as_ret (ae_bt dTupOf_ok T.z_tuple bb_tuple (aa_cons (ae_var 1) aa_nil))))))
theorem d_words_in {z : Ad} (T : Txt K mg z) (C_walked : Cal false P w K mg base "walked" 17 2 [] (fun ds _ => ds) (PK.S_walked z 16)) {f : Addr} (cdv : Value) (A : Around) (outer : List PySem.Env) (s : Shared) (H : Hp) (E : XK) (c : Cg false (cxOf (L2.CX P w) P w K mg base PK.N_words_in "words_in" (defScope s_words_in) f cdv A outer s H E) E 17) :
    ASs (cxOf (L2.CX P w) P w K mg base PK.N_words_in "words_in" (defScope s_words_in) f cdv A outer s H E) E (defBody s_words_in) (PK.w_words_in z) :=
  (ass_one (as_ret (ae_bt dTupOf_ok T.z_tuple bb_tuple (aa_cons (ae_lc false (own := [("place", 1), ("action", 2)]) c (ai_list (ae_call c C_walked (by decide) (by decide) (aa_cons (ae_var 0) (aa_cons (ae_tup aa_nil) aa_nil)))) (show BlkOk PK.N_words_in (defScope s_words_in) _ [("place", 1), ("action", 2)] from ⟨rfl, by decide +kernel, by decide +kernel, by decide +kernel, by decide +kernel⟩) (gw_tup (is := [1, 2]) (by decide)) (fun s H C cl fp => pg_tup c.calm (pgs_cons (pg_name (i := 1) c.nd rfl (by first | exact Or.inl rfl | exact Or.inr rfl)) (pgs_cons (pg_name (i := 2) c.nd rfl (by first | exact Or.inl rfl | exact Or.inr rfl)) pgs_nil))) (fun s H C cl fp c => ats_nil) (fun s H C cl fp c => (ae_ix (ae_var 2) ae_int))) aa_nil))))
theorem d_Program___init__ {z : Ad} (T : Txt K mg z) (C_first_wrong : Cal false P w K mg base "first_wrong" 20 1 [] (fun ds _ => ds) (PK.S_first_wrong z)) (C_reach_in : Cal false P w K mg base "reach_in" 33 1 [] (fun ds _ => ds) (PK.S_reach_in z 16)) (C_size_in : Cal false P w K mg base "size_in" 17 1 [] (fun ds _ => ds) (PK.S_size_in z 16)) {f : Addr} (cdv : Value) (A : Around) (outer : List PySem.Env) (s : Shared) (H : Hp) (E : XK) (c : Cg false (cxOf (L2.CX P w) P w K mg base PK.N_Program___init__ "Program.__init__" (defScope s_Program___init__) f cdv A outer s H E) E 33) :
    ASs (cxOf (L2.CX P w) P w K mg base PK.N_Program___init__ "Program.__init__" (defScope s_Program___init__) f cdv A outer s H E) E (defBody s_Program___init__) (PK.w_Program___init__ z) :=
  (ass_cons (as_set 2 c.nd (ae_call c C_first_wrong (by decide) (by decide) (aa_cons (ae_var 1) aa_nil)))
    (ass_cons (as_if (at_isnot (ae_var 2) ae_non) (ass_one as_never) ass_nil)
    (ass_cons (as_set 3 c.nd (ae_call c C_size_in (by decide) (by decide) (aa_cons (ae_var 1) aa_nil)))
    (ass_cons (as_if (at_gt (ae_var 3) (ae_glob T.c_MOST_POINTS_HERE)) (ass_one as_never) ass_nil)
    (ass_cons (as_set 4 c.nd (ae_call c C_reach_in (by decide) (by decide) (aa_cons (ae_var 1) aa_nil)))
    (ass_cons (as_if (at_gt (ae_var 4) (ae_glob T.c_MOST_BYTES_HERE)) (ass_one as_never) ass_nil)
    (ass_one (AS.or (as_fld T.k_Program T.n_Program_held (ae_var 0) (ae_var 1)) (as_fld T.k_LineProgram T.n_LineProgram_held (ae_var 0) (ae_var 1))))))))))
theorem d_Program_of {z : Ad} (T : Txt K mg z) (M_LineProgram : MakC P w K mg base "LineProgram" z.LineProgram 34 (starS 1 (PK.S_Program___init__ z))) (M_Program : MakC P w K mg base "Program" z.Program 34 (starS 1 (PK.S_Program___init__ z))) {f : Addr} (cdv : Value) (A : Around) (outer : List PySem.Env) (s : Shared) (H : Hp) (E : XK) (c : Cg false (cxOf (L2.CX P w) P w K mg base PK.N_Program_of "Program.of" (defScope s_Program_of) f cdv A outer s H E) E 35) :
    ASs (cxOf (L2.CX P w) P w K mg base PK.N_Program_of "Program.of" (defScope s_Program_of) f cdv A outer s H E) E (defBody s_Program_of) (PK.w_Program_of z) :=
  (ass_cons (as_if (at_not (at_val (ae_b dIsi_ok T.z_isinstance bb_isinstance (aa_cons (ae_var 1) (aa_cons (ae_ty T.z_tuple bb_tuple) aa_nil))))) (ass_one as_never) ass_nil)
    (ass_one (as_ret (AE.or (ag_makeVS 0 c M_Program (by decide) (ae_var 1)) (ag_makeVS 0 c M_LineProgram (by decide) (ae_var 1))))))
theorem d_Program_body {z : Ad} (T : Txt K mg z)  {f : Addr} (cdv : Value) (A : Around) (outer : List PySem.Env) (s : Shared) (H : Hp) (E : XK) (c : Cg false (cxOf (L2.CX P w) P w K mg base PK.N_Program_body "Program.body" (defScope s_Program_body) f cdv A outer s H E) E 0) :
    ASs (cxOf (L2.CX P w) P w K mg base PK.N_Program_body "Program.body" (defScope s_Program_body) f cdv A outer s H E) E (defBody s_Program_body) (PK.w_Program_body z) :=
  (ass_one (as_ret (AE.or (ae_fld T.k_Program T.n_Program_held (ae_var 0)) (ae_fld T.k_LineProgram T.n_LineProgram_held (ae_var 0)))))
theorem d_Program_size {z : Ad} (T : Txt K mg z) (C_size_in : Cal false P w K mg base "size_in" 17 1 [] (fun ds _ => ds) (PK.S_size_in z 16)) {f : Addr} (cdv : Value) (A : Around) (outer : List PySem.Env) (s : Shared) (H : Hp) (E : XK) (c : Cg false (cxOf (L2.CX P w) P w K mg base PK.N_Program_size "Program.size" (defScope s_Program_size) f cdv A outer s H E) E 17) :
    ASs (cxOf (L2.CX P w) P w K mg base PK.N_Program_size "Program.size" (defScope s_Program_size) f cdv A outer s H E) E (defBody s_Program_size) (PK.w_Program_size z) :=
  (ass_one (as_ret (ae_call c C_size_in (by decide) (by decide) (aa_cons (AE.or (ae_fld T.k_Program T.n_Program_held (ae_var 0)) (ae_fld T.k_LineProgram T.n_LineProgram_held (ae_var 0))) aa_nil))))
theorem d_Program_reach {z : Ad} (T : Txt K mg z) (C_reach_in : Cal false P w K mg base "reach_in" 33 1 [] (fun ds _ => ds) (PK.S_reach_in z 16)) {f : Addr} (cdv : Value) (A : Around) (outer : List PySem.Env) (s : Shared) (H : Hp) (E : XK) (c : Cg false (cxOf (L2.CX P w) P w K mg base PK.N_Program_reach "Program.reach" (defScope s_Program_reach) f cdv A outer s H E) E 33) :
    ASs (cxOf (L2.CX P w) P w K mg base PK.N_Program_reach "Program.reach" (defScope s_Program_reach) f cdv A outer s H E) E (defBody s_Program_reach) (PK.w_Program_reach z) :=
  (ass_one (as_ret (ae_call c C_reach_in (by decide) (by decide) (aa_cons (AE.or (ae_fld T.k_Program T.n_Program_held (ae_var 0)) (ae_fld T.k_LineProgram T.n_LineProgram_held (ae_var 0))) aa_nil))))
theorem d_Program_unrolled {z : Ad} (T : Txt K mg z) (C_unrolled_in : Cal false P w K mg base "unrolled_in" 16 1 [] (fun ds _ => ds) (PK.S_unrolled_in z 16)) {f : Addr} (cdv : Value) (A : Around) (outer : List PySem.Env) (s : Shared) (H : Hp) (E : XK) (c : Cg false (cxOf (L2.CX P w) P w K mg base PK.N_Program_unrolled "Program.unrolled" (defScope s_Program_unrolled) f cdv A outer s H E) E 16) :
    ASs (cxOf (L2.CX P w) P w K mg base PK.N_Program_unrolled "Program.unrolled" (defScope s_Program_unrolled) f cdv A outer s H E) E (defBody s_Program_unrolled) (PK.w_Program_unrolled z) :=
  (ass_one (as_ret (ae_call c C_unrolled_in (by decide) (by decide) (aa_cons (AE.or (ae_fld T.k_Program T.n_Program_held (ae_var 0)) (ae_fld T.k_LineProgram T.n_LineProgram_held (ae_var 0))) aa_nil))))
theorem d_Program_words {z : Ad} (T : Txt K mg z) (C_unrolled_in : Cal false P w K mg base "unrolled_in" 16 1 [] (fun ds _ => ds) (PK.S_unrolled_in z 16)) (C_words_in : Cal false P w K mg base "words_in" 18 1 [] (fun ds _ => ds) (PK.S_words_in z)) {f : Addr} (cdv : Value) (A : Around) (outer : List PySem.Env) (s : Shared) (H : Hp) (E : XK) (c : Cg false (cxOf (L2.CX P w) P w K mg base PK.N_Program_words "Program.words" (defScope s_Program_words) f cdv A outer s H E) E 18) :
    ASs (cxOf (L2.CX P w) P w K mg base PK.N_Program_words "Program.words" (defScope s_Program_words) f cdv A outer s H E) E (defBody s_Program_words) (PK.w_Program_words z) :=
  (ass_one (as_ret (ae_call c C_words_in (by decide) (by decide) (aa_cons (ae_call c C_unrolled_in (by decide) (by decide) (aa_cons (AE.or (ae_fld T.k_Program T.n_Program_held (ae_var 0)) (ae_fld T.k_LineProgram T.n_LineProgram_held (ae_var 0))) aa_nil)) aa_nil))))
theorem d__law_pen {z : Ad} (T : Txt K mg z)  {f : Addr} (cdv : Value) (A : Around) (outer : List PySem.Env) (s : Shared) (H : Hp) (E : XK) (c : Cg false (cxOf (L2.CX P w) P w K mg base F1.N__law_pen "_law_pen" (defScope s__law_pen) f cdv A outer s H E) E 0) :
    ASs (cxOf (L2.CX P w) P w K mg base F1.N__law_pen "_law_pen" (defScope s__law_pen) f cdv A outer s H E) E (defBody s__law_pen) (F1.w__law_pen z) :=
  (ass_one (as_ret (ae_lst true (aa_cons (ae_bt (dListOf_ok (m := false)) T.z_list bb_list (aa_cons (ae_sl false (ae_var 0) ao_none (ao_some ae_int)) aa_nil)) (aa_cons ae_int (aa_cons ae_int aa_nil))))))
theorem d__law_draw {z : Ad} (T : Txt K mg z)  {f : Addr} (cdv : Value) (A : Around) (outer : List PySem.Env) (s : Shared) (H : Hp) (E : XK) (c : Cg false (cxOf (L2.CX P w) P w K mg base F1.N__law_draw "_law_draw" (defScope s__law_draw) f cdv A outer s H E) E 0) :
    ASs (cxOf (L2.CX P w) P w K mg base F1.N__law_draw "_law_draw" (defScope s__law_draw) f cdv A outer s H E) E (defBody s__law_draw) (F1.w__law_draw z) :=
  (ass_cons (as_if (at_gt (ae_ix (ae_var 0) ae_int) ae_int) (ass_cons (as_set 2 c.nd (ae_mod (ae_ix (ae_var 0) ae_int) (ae_var 1)))
    (ass_cons (as_asg (ae_div (ae_ix (ae_var 0) ae_int) (ae_var 1)) (ag_subL (ae_var 0) ae_int (fun _ => rfl)))
    (ass_one (as_ret (ae_var 2))))) ass_nil)
    (ass_cons (as_set 3 c.nd (ae_ix (ae_var 0) ae_int))
    (ass_cons (as_asg (ae_add false (ae_var 3) ae_int) (ag_subL (ae_var 0) ae_int (fun _ => rfl)))
    (ass_cons (as_set 4 c.nd (ae_add false (ae_mul false ae_int (ae_var 3)) ae_int))
    (ass_cons (as_if (at_ne c (ae_ix (ae_var 0) ae_int) (ae_lst false aa_nil)) (ass_one (as_set 4 c.nd (ae_ix (ae_ix (ae_var 0) ae_int) (ae_mod (ae_var 3) (ae_b dLen_ok T.z_len bb_len (aa_cons (ae_ix (ae_var 0) ae_int) aa_nil)))))) ass_nil)
    (ass_cons (as_if (AW.at (aw_and (at_lt (ae_var 3) (ae_b dLen_ok T.z_len bb_len (aa_cons (ae_ix (ae_var 0) ae_int) aa_nil))) (aw_and1 (at_ge (ae_b dAbs_ok T.z_abs bb_abs (aa_cons (ae_var 4) aa_nil)) (ae_pow ae_int ae_int))))) (ass_cons (as_set 5 c.nd (ae_add false (ae_mul false ae_int (ae_b dAbs_ok T.z_abs bb_abs (aa_cons (ae_var 4) aa_nil))) (ae_bt dInt_ok T.z_int bb_int (aa_cons (ae_lt (ae_var 4) ae_int) aa_nil))))
    (ass_cons (as_asg (ae_div (ae_var 5) (ae_var 1)) (ag_subL (ae_var 0) ae_int (fun _ => rfl)))
    (ass_one (as_ret (ae_mod (ae_var 5) (ae_var 1)))))) ass_nil)
    (ass_cons (as_set 6 c.nd (ae_mod (ae_pow (ae_add false (ae_add false (ae_mod (ae_var 4) ae_int) (ae_mul false ae_int (ae_var 3))) ae_int) ae_int) ae_int))
    (ass_cons (as_set 6 c.nd (ae_mod (ae_pow (ae_add false (ae_mul false (ae_var 6) (ae_add false (ae_mul false ae_int (ae_var 3)) ae_int)) ae_int) ae_int) ae_int))
    (ass_one (as_ret (ae_mod (ae_div (ae_var 6) ae_int) (ae_var 1))))))))))))
theorem d__law_deeds {z : Ad} (T : Txt K mg z) (n : Nat) (C__law_deeds : Cal false P w K mg base "_law_deeds" (1 + n) 4 [] (fun ds _ => ds) (F1.S__law_deeds z n)) (C__law_draw : Cal false P w K mg base "_law_draw" 1 2 [] (fun ds _ => ds) (F1.S__law_draw z)) {f : Addr} (cdv : Value) (A : Around) (outer : List PySem.Env) (s : Shared) (H : Hp) (E : XK) (c : Cg false (cxOf (L2.CX P w) P w K mg base F1.N__law_deeds "_law_deeds" (defScope s__law_deeds) f cdv A outer s H E) E (1 + n)) :
    ASs (cxOf (L2.CX P w) P w K mg base F1.N__law_deeds "_law_deeds" (defScope s__law_deeds) f cdv A outer s H E) E (defBody s__law_deeds) (F1.w__law_deeds z n) :=
  (ass_cons (as_set 4 c.nd (ae_lst true aa_nil))
    (ass_cons (as_for c (ai_rng1 T.z_range (aa_cons (ae_call c C__law_draw (by omega) (by decide) (aa_cons (ae_var 0) (aa_cons (ae_add false (ae_var 3) ae_int) aa_nil))) aa_nil)) (ag_name 5 c.nd) (ass_cons (as_set 6 c.nd (ae_ix (ae_var 2) (ae_call c C__law_draw (by omega) (by decide) (aa_cons (ae_var 0) (aa_cons (ae_b dLen_ok T.z_len bb_len (aa_cons (ae_var 2) aa_nil)) aa_nil)))))
    (ass_one (as_if (at_eq c (ae_var 6) ae_str) (ass_one (as_expr (ae_append (ae_var 4) (aa_cons (ae_tup (aa_cons (ae_var 6) (aa_cons (ae_ix (ae_lst false (aa_cons ae_int (aa_cons ae_int (aa_cons ae_int (aa_cons ae_int (aa_cons ae_int (aa_cons (ae_add false ae_int (ae_call c C__law_draw (by omega) (by decide) (aa_cons (ae_var 0) (aa_cons ae_int aa_nil)))) aa_nil))))))) (ae_call c C__law_draw (by omega) (by decide) (aa_cons (ae_var 0) (aa_cons ae_int aa_nil)))) aa_nil))) aa_nil)))) (ass_one (as_if (at_eq c (ae_var 6) ae_str) (ass_one (as_expr (ae_append (ae_var 4) (aa_cons (ae_tup (aa_cons (ae_var 6) (aa_cons (ae_if (at_gt (ae_var 1) ae_int) (ae_call c C__law_deeds (by omega) (by decide) (aa_cons (ae_var 0) (aa_cons (ae_sub (ae_var 1) ae_int) (aa_cons (ae_var 2) (aa_cons ae_int aa_nil))))) (ae_tup aa_nil)) aa_nil))) aa_nil)))) (ass_one (as_if (at_eq c (ae_var 6) ae_str) (ass_cons (as_set 7 c.nd (ae_if (at_gt (ae_var 1) ae_int) (ae_call c C__law_deeds (by omega) (by decide) (aa_cons (ae_var 0) (aa_cons (ae_sub (ae_var 1) ae_int) (aa_cons (ae_var 2) (aa_cons ae_int aa_nil))))) (ae_tup (aa_cons (ae_tup (aa_cons ae_str aa_nil)) aa_nil))))
    (ass_one (as_expr (ae_append (ae_var 4) (aa_cons (ae_tup (aa_cons (ae_var 6) (aa_cons (ae_ix (ae_lst false (aa_cons ae_int (aa_cons ae_int (aa_cons ae_int (aa_cons ae_int aa_nil))))) (ae_call c C__law_draw (by omega) (by decide) (aa_cons (ae_var 0) (aa_cons ae_int aa_nil)))) (aa_cons (ae_var 7) aa_nil)))) aa_nil))))) (ass_one (as_expr (ae_append (ae_var 4) (aa_cons (ae_tup (aa_cons (ae_var 6) aa_nil)) aa_nil))))))))))))
    (ass_one (as_ret (ae_bt dTupOf_ok T.z_tuple bb_tuple (aa_cons (ae_var 4) aa_nil))))))
theorem d__law_words {z : Ad} (T : Txt K mg z) (C__law_draw : Cal false P w K mg base "_law_draw" 1 2 [] (fun ds _ => ds) (F1.S__law_draw z)) {f : Addr} (cdv : Value) (A : Around) (outer : List PySem.Env) (s : Shared) (H : Hp) (E : XK) (c : Cg false (cxOf (L2.CX P w) P w K mg base F1.N__law_words "_law_words" (defScope s__law_words) f cdv A outer s H E) E 1) :
    ASs (cxOf (L2.CX P w) P w K mg base F1.N__law_words "_law_words" (defScope s__law_words) f cdv A outer s H E) E (defBody s__law_words) (F1.w__law_words z) :=
  (ass_cons (as_set 1 c.nd (ae_lst true (aa_cons (ae_lst false (aa_cons ae_str (aa_cons ae_str (aa_cons ae_str (aa_cons ae_str (aa_cons ae_str aa_nil)))))) (aa_cons (ae_lst false (aa_cons ae_str (aa_cons ae_str (aa_cons ae_str (aa_cons ae_str aa_nil))))) (aa_cons (ae_lst false (aa_cons ae_str (aa_cons ae_str (aa_cons ae_str aa_nil)))) (aa_cons (ae_lst false (aa_cons ae_str (aa_cons ae_str (aa_cons ae_str (aa_cons ae_str aa_nil))))) (aa_cons (ae_lst false (aa_cons ae_str (aa_cons ae_str (aa_cons ae_str (aa_cons ae_str aa_nil))))) (aa_cons (ae_lst false (aa_cons ae_str (aa_cons ae_str (aa_cons ae_str (aa_cons ae_str aa_nil))))) aa_nil))))))))
    (ass_cons (as_expr (ae_append (ae_var 1) (aa_cons (ae_lst false (aa_cons ae_str (aa_cons ae_str (aa_cons ae_str (aa_cons ae_str (aa_cons ae_str (aa_cons ae_str (aa_cons ae_str (aa_cons ae_str (aa_cons ae_str (aa_cons ae_str (aa_cons ae_str aa_nil)))))))))))) aa_nil)))
    (ass_one (as_ret (ae_ix (ae_var 1) (ae_call c C__law_draw (by decide) (by decide) (aa_cons (ae_var 0) (aa_cons ae_int aa_nil))))))))
theorem d__law_bulk {z : Ad} (T : Txt K mg z)  {f : Addr} (cdv : Value) (A : Around) (outer : List PySem.Env) (s : Shared) (H : Hp) (E : XK) (c : Cg false (cxOf (L2.CX P w) P w K mg base F1.N__law_bulk "_law_bulk" (defScope s__law_bulk) f cdv A outer s H E) E 0) :
    ASs (cxOf (L2.CX P w) P w K mg base F1.N__law_bulk "_law_bulk" (defScope s__law_bulk) f cdv A outer s H E) E (defBody s__law_bulk) (F1.w__law_bulk z) :=
  (ass_one (as_ret (ae_if (at_eq c (ae_ix (ae_var 0) ae_int) ae_str) (ae_ix (ae_var 0) ae_int) (ae_bt dInt_ok T.z_int bb_int (aa_cons (ae_eq c (ae_ix (ae_var 0) ae_int) ae_str) aa_nil)))))
theorem d__law_size {z : Ad} (T : Txt K mg z) (n : Nat) (C__law_size : Cal false P w K mg base "_law_size" (0 + n) 1 [] (fun ds _ => ds) (F1.S__law_size z n)) {f : Addr} (cdv : Value) (A : Around) (outer : List PySem.Env) (s : Shared) (H : Hp) (E : XK) (c : Cg false (cxOf (L2.CX P w) P w K mg base F1.N__law_size "_law_size" (defScope s__law_size) f cdv A outer s H E) E (0 + n)) :
    ASs (cxOf (L2.CX P w) P w K mg base F1.N__law_size "_law_size" (defScope s__law_size) f cdv A outer s H E) E (defBody s__law_size) (F1.w__law_size z n) :=
  (ass_cons (as_set 1 c.nd ae_int)
    (ass_cons (as_for c (ai_tup (ae_var 0)) (ag_name 2 c.nd) (ass_one (as_if (at_eq c (ae_ix (ae_var 2) ae_int) ae_str) (ass_one (as_set 1 c.nd (ae_add false (ae_var 1) (ae_mul false (ae_ix (ae_var 2) ae_int) (ae_call c C__law_size (by omega) (by decide) (aa_cons (ae_ix (ae_var 2) ae_int) aa_nil)))))) (ass_one (as_set 1 c.nd (ae_add false (ae_add false (ae_var 1) ae_int) (ae_if (at_eq c (ae_ix (ae_var 2) ae_int) ae_str) (ae_call c C__law_size (by omega) (by decide) (aa_cons (ae_ix (ae_var 2) ae_int) aa_nil)) ae_int)))))))
    (ass_one (as_ret (ae_var 1)))))
theorem d__law_far {z : Ad} (T : Txt K mg z) (n : Nat) (C__law_bulk : Cal false P w K mg base "_law_bulk" 1 1 [] (fun ds _ => ds) (F1.S__law_bulk z)) (C__law_far : Cal false P w K mg base "_law_far" (1 + n) 1 [] (fun ds _ => ds) (F1.S__law_far z n)) {f : Addr} (cdv : Value) (A : Around) (outer : List PySem.Env) (s : Shared) (H : Hp) (E : XK) (c : Cg false (cxOf (L2.CX P w) P w K mg base F1.N__law_far "_law_far" (defScope s__law_far) f cdv A outer s H E) E (1 + n)) :
    ASs (cxOf (L2.CX P w) P w K mg base F1.N__law_far "_law_far" (defScope s__law_far) f cdv A outer s H E) E (defBody s__law_far) (F1.w__law_far z n) :=
  (ass_cons (as_asg (ae_tup (aa_cons ae_int (aa_cons ae_int aa_nil))) (ag_tup c.calm (ags_cons (ag_name 1 c.nd) (ags_cons (ag_name 2 c.nd) ags_nil))))
    (ass_cons (as_for c (ai_tup (ae_var 0)) (ag_name 3 c.nd) (ass_one (as_if (at_eq c (ae_ix (ae_var 3) ae_int) ae_str) (ass_one (as_set 2 c.nd (ae_b (dMax2_ok c.calm) T.z_max bb_max (aa_cons (ae_var 2) (aa_cons (ae_add false (ae_var 1) (ae_ix (ae_call c C__law_far (by omega) (by decide) (aa_cons (ae_ix (ae_var 3) ae_int) aa_nil)) ae_int)) aa_nil))))) (ass_one (as_if (at_eq c (ae_ix (ae_var 3) ae_int) ae_str) (ass_cons (as_asg (ae_call c C__law_far (by omega) (by decide) (aa_cons (ae_ix (ae_var 3) ae_int) aa_nil)) (ag_tup c.calm (ags_cons (ag_name 4 c.nd) (ags_cons (ag_name 5 c.nd) ags_nil))))
    (ass_cons (as_if (at_gt (ae_ix (ae_var 3) ae_int) ae_int) (ass_one (as_set 2 c.nd (ae_b (dMax2_ok c.calm) T.z_max bb_max (aa_cons (ae_var 2) (aa_cons (ae_add false (ae_add false (ae_var 1) (ae_mul false (ae_sub (ae_ix (ae_var 3) ae_int) ae_int) (ae_var 4))) (ae_var 5)) aa_nil))))) ass_nil)
    (ass_one (as_set 1 c.nd (ae_add false (ae_var 1) (ae_mul false (ae_ix (ae_var 3) ae_int) (ae_var 4))))))) (ass_one (as_set 1 c.nd (ae_add false (ae_var 1) (ae_call c C__law_bulk (by omega) (by decide) (aa_cons (ae_var 3) aa_nil))))))))))
    (ass_one (as_ret (ae_tup (aa_cons (ae_var 1) (aa_cons (ae_b (dMax2_ok c.calm) T.z_max bb_max (aa_cons (ae_var 2) (aa_cons (ae_var 1) aa_nil))) aa_nil)))))))
theorem d__law_fitting {z : Ad} (T : Txt K mg z) (C__law_far : Cal false P w K mg base "_law_far" 17 1 [] (fun ds _ => ds) (F1.S__law_far z 16)) (C__law_size : Cal false P w K mg base "_law_size" 16 1 [] (fun ds _ => ds) (F1.S__law_size z 16)) {f : Addr} (cdv : Value) (A : Around) (outer : List PySem.Env) (s : Shared) (H : Hp) (E : XK) (c : Cg false (cxOf (L2.CX P w) P w K mg base F1.N__law_fitting "_law_fitting" (defScope s__law_fitting) f cdv A outer s H E) E 17) :
    ASs (cxOf (L2.CX P w) P w K mg base F1.N__law_fitting "_law_fitting" (defScope s__law_fitting) f cdv A outer s H E) E (defBody s__law_fitting) (F1.w__law_fitting z) :=
  (ass_cons (as_for c (ai_rng1 T.z_range (aa_cons (ae_b dLen_ok T.z_len bb_len (aa_cons (ae_var 0) aa_nil)) aa_nil)) (ag_name 3 c.nd) (ass_one (as_if (AW.at (aw_or (at_gt (ae_call c C__law_size (by decide) (by decide) (aa_cons (ae_var 0) aa_nil)) (ae_var 1)) (aw_or1 (at_gt (ae_ix (ae_call c C__law_far (by decide) (by decide) (aa_cons (ae_var 0) aa_nil)) ae_int) (ae_var 2))))) (ass_one (as_set 0 c.nd (ae_sl false (ae_var 0) ao_none (ao_some (ae_neg ae_int))))) ass_nil)))
    (ass_one (as_ret (ae_var 0))))
theorem d__law_job {z : Ad} (T : Txt K mg z) (C__law_deeds : Cal false P w K mg base "_law_deeds" 17 4 [] (fun ds _ => ds) (F1.S__law_deeds z 16)) (C__law_fitting : Cal false P w K mg base "_law_fitting" 18 3 [] (fun ds _ => ds) (F1.S__law_fitting z)) (C__law_words : Cal false P w K mg base "_law_words" 2 1 [] (fun ds _ => ds) (F1.S__law_words z)) {f : Addr} (cdv : Value) (A : Around) (outer : List PySem.Env) (s : Shared) (H : Hp) (E : XK) (c : Cg false (cxOf (L2.CX P w) P w K mg base F1.N__law_job "_law_job" (defScope s__law_job) f cdv A outer s H E) E 18) :
    ASs (cxOf (L2.CX P w) P w K mg base F1.N__law_job "_law_job" (defScope s__law_job) f cdv A outer s H E) E (defBody s__law_job) (F1.w__law_job z) :=
  (ass_one (as_ret (ae_call c C__law_fitting (by decide) (by decide) (aa_cons (ae_call c C__law_deeds (by decide) (by decide) (aa_cons (ae_var 0) (aa_cons ae_int (aa_cons (ae_call c C__law_words (by decide) (by decide) (aa_cons (ae_var 0) aa_nil)) (aa_cons ae_int aa_nil))))) (aa_cons ae_int (aa_cons ae_int aa_nil))))))
theorem d__law_flat {z : Ad} (T : Txt K mg z) (n : Nat) (C__law_flat : Cal false P w K mg base "_law_flat" (0 + n) 1 [] (fun ds _ => ds) (F1.S__law_flat z n)) {f : Addr} (cdv : Value) (A : Around) (outer : List PySem.Env) (s : Shared) (H : Hp) (E : XK) (c : Cg false (cxOf (L2.CX P w) P w K mg base F1.N__law_flat "_law_flat" (defScope s__law_flat) f cdv A outer s H E) E (0 + n)) :
    ASs (cxOf (L2.CX P w) P w K mg base F1.N__law_flat "_law_flat" (defScope s__law_flat) f cdv A outer s H E) E (defBody s__law_flat) (F1.w__law_flat z n) :=
  (ass_cons (as_set 1 c.nd (ae_lst true aa_nil))
    (ass_cons (as_for c (ai_tup (ae_var 0)) (ag_name 2 c.nd) (ass_one (as_if (at_eq c (ae_ix (ae_var 2) ae_int) ae_str) (ass_one (as_set 1 c.nd (ae_add true (ae_var 1) (ae_mul false (ae_bt (dListOf_ok (m := false)) T.z_list bb_list (aa_cons (ae_call c C__law_flat (by omega) (by decide) (aa_cons (ae_ix (ae_var 2) ae_int) aa_nil)) aa_nil)) (ae_ix (ae_var 2) ae_int))))) (ass_one (as_expr (ae_append (ae_var 1) (aa_cons (ae_if (at_eq c (ae_ix (ae_var 2) ae_int) ae_str) (ae_tup (aa_cons ae_str (aa_cons (ae_call c C__law_flat (by omega) (by decide) (aa_cons (ae_ix (ae_var 2) ae_int) aa_nil)) aa_nil))) (ae_var 2)) aa_nil)))))))
    (ass_one (as_ret (ae_bt dTupOf_ok T.z_tuple bb_tuple (aa_cons (ae_var 1) aa_nil))))))
theorem d__law_all_words {z : Ad} (T : Txt K mg z) (n : Nat) (C__law_all_words : Cal false P w K mg base "_law_all_words" (0 + n) 1 [] (fun ds _ => ds) (F1.S__law_all_words z n)) {f : Addr} (cdv : Value) (A : Around) (outer : List PySem.Env) (s : Shared) (H : Hp) (E : XK) (c : Cg false (cxOf (L2.CX P w) P w K mg base F1.N__law_all_words "_law_all_words" (defScope s__law_all_words) f cdv A outer s H E) E (0 + n)) :
    ASs (cxOf (L2.CX P w) P w K mg base F1.N__law_all_words "_law_all_words" (defScope s__law_all_words) f cdv A outer s H E) E (defBody s__law_all_words) (F1.w__law_all_words z n) :=
  (ass_cons (as_set 1 c.nd (ae_lst true aa_nil))
    (ass_cons (as_for c (ai_tup (ae_var 0)) (ag_name 2 c.nd) (ass_cons (as_expr (ae_append (ae_var 1) (aa_cons (ae_ix (ae_var 2) ae_int) aa_nil)))
    (ass_one (as_if (at_in (ae_ix (ae_var 2) ae_int) (ae_tup (aa_cons ae_str (aa_cons ae_str aa_nil)))) (ass_one (as_set 1 c.nd (ae_add true (ae_var 1) (ae_call c C__law_all_words (by omega) (by decide) (aa_cons (ae_ix (ae_var 2) (ae_neg ae_int)) aa_nil))))) ass_nil))))
    (ass_one (as_ret (ae_var 1)))))
theorem d__law_most {z : Ad} (T : Txt K mg z) (n : Nat) (C__law_bulk : Cal false P w K mg base "_law_bulk" 1 1 [] (fun ds _ => ds) (F1.S__law_bulk z)) (C__law_most : Cal false P w K mg base "_law_most" (1 + n) 2 [] (fun ds _ => ds) (S__law_most z n)) {f : Addr} (cdv : Value) (A : Around) (outer : List PySem.Env) (s : Shared) (H : Hp) (E : XK) (c : Cg false (cxOf (L2.CX P w) P w K mg base N__law_most "_law_most" (defScope s__law_most) f cdv A outer s H E) E (1 + n)) :
    ASs (cxOf (L2.CX P w) P w K mg base N__law_most "_law_most" (defScope s__law_most) f cdv A outer s H E) E (defBody s__law_most) (w__law_most z n) :=
  (ass_cons (as_set 2 c.nd (ae_var 1))
    (ass_cons (as_for c (ai_tup (ae_var 0)) (ag_name 3 c.nd) (ass_cons (as_if (at_eq c (ae_ix (ae_var 3) ae_int) ae_str) (ass_one (as_set 2 c.nd (ae_b (dMax2_ok c.calm) T.z_max bb_max (aa_cons (ae_var 2) (aa_cons (ae_call c C__law_most (by omega) (by decide) (aa_cons (ae_ix (ae_var 3) ae_int) (aa_cons (ae_var 1) aa_nil))) aa_nil))))) ass_nil)
    (ass_cons (as_set 1 c.nd (ae_add false (ae_var 1) (ae_call c C__law_bulk (by omega) (by decide) (aa_cons (ae_var 3) aa_nil))))
    (ass_one (as_set 2 c.nd (ae_b (dMax2_ok c.calm) T.z_max bb_max (aa_cons (ae_var 2) (aa_cons (ae_var 1) aa_nil))))))))
    (ass_one (as_ret (ae_var 2)))))
theorem d_law {z : Ad} (T : Txt K mg z) (C__law_all_words : Cal false P w K mg base "_law_all_words" 16 1 [] (fun ds _ => ds) (F1.S__law_all_words z 16)) (C__law_far : Cal false P w K mg base "_law_far" 17 1 [] (fun ds _ => ds) (F1.S__law_far z 16)) (C__law_flat : Cal false P w K mg base "_law_flat" 16 1 [] (fun ds _ => ds) (F1.S__law_flat z 16)) (C__law_job : Cal false P w K mg base "_law_job" 19 1 [] (fun ds _ => ds) (F1.S__law_job z)) (C__law_most : Cal false P w K mg base "_law_most" 17 2 [] (fun ds _ => ds) (S__law_most z 16)) (C__law_pen : Cal false P w K mg base "_law_pen" 1 1 [] (fun ds _ => ds) (F1.S__law_pen z)) (C__law_size : Cal false P w K mg base "_law_size" 16 1 [] (fun ds _ => ds) (F1.S__law_size z 16)) (R_LineProgram_of : CMetC P w K mg base z.LineProgram "of" 36 (PK.S_Program_of z)) (R_Program_of : CMetC P w K mg base z.Program "of" 36 (PK.S_Program_of z)) (M_Program : MakC P w K mg base "Program" z.Program 34 (starS 1 (PK.S_Program___init__ z))) (R_LineProgram_body : PrpC P w K mg base z.LineProgram "body" 1 (PK.S_Program_body z)) (R_LineProgram_reach : PrpC P w K mg base z.LineProgram "reach" 34 (PK.S_Program_reach z)) (R_LineProgram_size : PrpC P w K mg base z.LineProgram "size" 18 (PK.S_Program_size z)) (R_LineProgram_unrolled : PrpC P w K mg base z.LineProgram "unrolled" 17 (PK.S_Program_unrolled z)) (R_LineProgram_words : PrpC P w K mg base z.LineProgram "words" 19 (PK.S_Program_words z)) (R_Program_body : PrpC P w K mg base z.Program "body" 1 (PK.S_Program_body z)) (R_Program_reach : PrpC P w K mg base z.Program "reach" 34 (PK.S_Program_reach z)) (R_Program_size : PrpC P w K mg base z.Program "size" 18 (PK.S_Program_size z)) (R_Program_unrolled : PrpC P w K mg base z.Program "unrolled" 17 (PK.S_Program_unrolled z)) (R_Program_words : PrpC P w K mg base z.Program "words" 19 (PK.S_Program_words z)) {f : Addr} (cdv : Value) (A : Around) (outer : List PySem.Env) (s : Shared) (H : Hp) (E : XK) (c : Cg true (cxOf (L2.CX P w) P w K mg base N_law "law" (defScope s_law) f cdv A outer s H E) E 36) :
    ASs (cxOf (L2.CX P w) P w K mg base N_law "law" (defScope s_law) f cdv A outer s H E) E (defBody s_law) (w_law z) :=
  (ass_cons (as_set 1 c.nd (ae_call c C__law_pen (by decide) (by decide) (aa_cons (ae_var 0) aa_nil)))
    (ass_cons (as_for c (ai_rng1 T.z_range (aa_cons ae_int aa_nil)) (ag_name 2 c.nd) (ass_cons (as_set 3 c.nd (ae_call c C__law_job (by decide) (by decide) (aa_cons (ae_var 1) aa_nil)))
    (ass_cons (as_set 4 c.nd (ae_b (dRepr_ok (c.gd rfl) c.room.units) T.z_repr bb_repr (aa_cons (ae_var 3) aa_nil)))
    (ass_cons (as_set 5 c.nd (ae_call c C__law_flat (by decide) (by decide) (aa_cons (ae_var 3) aa_nil)))
    (ass_cons (as_set 6 c.nd (ae_bt dTupOf_ok T.z_tuple bb_tuple (aa_cons (ae_call c C__law_all_words (by decide) (by decide) (aa_cons (ae_var 5) aa_nil)) aa_nil)))
    (ass_cons (as_set 7 c.nd (ae_b (dRepr_ok (c.gd rfl) c.room.units) T.z_repr bb_repr (aa_cons (ae_lst false (aa_cons (ae_var 5) (aa_cons (ae_var 6) (aa_cons (ae_b dLen_ok T.z_len bb_len (aa_cons (ae_var 6) aa_nil)) (aa_cons (ae_call c C__law_most (by decide) (by decide) (aa_cons (ae_var 5) (aa_cons ae_int aa_nil))) (aa_cons (ae_var 3) aa_nil)))))) aa_nil)))
    (ass_cons (as_for c (ai_tup (ae_tup (aa_cons (ag_cmet c R_Program_of (by decide) (ae_glob T.v_Program) (aa_cons (ae_var 3) aa_nil)) (aa_cons (ag_cmet c R_LineProgram_of (by decide) (ae_glob T.v_LineProgram) (aa_cons (ae_var 3) aa_nil)) aa_nil)))) (ag_name 8 c.nd) (ass_cons (as_set 9 c.nd (ae_lst false (aa_cons (AE.or (ag_prop c R_Program_unrolled (by decide) (ae_var 8)) (ag_prop c R_LineProgram_unrolled (by decide) (ae_var 8))) (aa_cons (AE.or (ag_prop c R_Program_words (by decide) (ae_var 8)) (ag_prop c R_LineProgram_words (by decide) (ae_var 8))) (aa_cons (AE.or (ag_prop c R_Program_size (by decide) (ae_var 8)) (ag_prop c R_LineProgram_size (by decide) (ae_var 8))) (aa_cons (AE.or (ag_prop c R_Program_reach (by decide) (ae_var 8)) (ag_prop c R_LineProgram_reach (by decide) (ae_var 8))) (aa_cons (AE.or (ag_prop c R_Program_body (by decide) (ae_var 8)) (ag_prop c R_LineProgram_body (by decide) (ae_var 8))) aa_nil)))))))
    (ass_one (as_if (AW.at (aw_or (at_ne c (ae_b (dRepr_ok (c.gd rfl) c.room.units) T.z_repr bb_repr (aa_cons (ae_var 9) aa_nil)) (ae_var 7)) (aw_or1 (at_ne c (ae_b (dRepr_ok (c.gd rfl) c.room.units) T.z_repr bb_repr (aa_cons (ae_var 3) aa_nil)) (ae_var 4))))) (ass_one (as_ret ae_bl)) ass_nil))))
    (ass_one (as_if (AW.at (aw_or (at_ne c (ae_call c C__law_size (by decide) (by decide) (aa_cons (ae_var 3) aa_nil)) (ae_b dLen_ok T.z_len bb_len (aa_cons (ae_var 6) aa_nil))) (aw_or1 (at_ne c (ae_ix (ae_call c C__law_far (by decide) (by decide) (aa_cons (ae_var 3) aa_nil)) ae_int) (ae_call c C__law_most (by decide) (by decide) (aa_cons (ae_var 5) (aa_cons ae_int aa_nil))))))) (ass_one (as_ret ae_bl)) ass_nil)))))))))
    (ass_cons (as_set 10 c.nd (ae_tup (aa_cons (ae_tup (aa_cons ae_str (aa_cons ae_int aa_nil))) (aa_cons (ae_tup (aa_cons ae_str (aa_cons ae_int (aa_cons (ae_tup (aa_cons (ae_tup (aa_cons ae_str aa_nil)) aa_nil)) aa_nil)))) (aa_cons (ae_tup (aa_cons ae_str (aa_cons (ae_tup (aa_cons (ae_tup (aa_cons ae_str (aa_cons ae_int aa_nil))) aa_nil)) aa_nil))) aa_nil)))))
    (ass_cons (as_set 8 c.nd (ag_make c M_Program (by decide) (aa_cons (ae_tup (aa_cons ae_str (aa_cons ae_int (aa_cons (ae_var 10) aa_nil)))) (aa_cons (ae_tup (aa_cons ae_str aa_nil)) aa_nil))))
    (ass_one (as_ret (ae_eq c (ae_lst false (aa_cons (AE.or (ag_prop c R_Program_size (by decide) (ae_var 8)) (ag_prop c R_LineProgram_size (by decide) (ae_var 8))) (aa_cons (AE.or (ag_prop c R_Program_reach (by decide) (ae_var 8)) (ag_prop c R_LineProgram_reach (by decide) (ae_var 8))) (aa_cons (AE.or (ag_prop c R_Program_unrolled (by decide) (ag_make0 c M_Program (by decide))) (ag_prop c R_LineProgram_unrolled (by decide) (ag_make0 c M_Program (by decide)))) (aa_cons (AE.or (ag_prop c R_Program_size (by decide) (ag_make0 c M_Program (by decide))) (ag_prop c R_LineProgram_size (by decide) (ag_make0 c M_Program (by decide)))) aa_nil))))) (ae_lst false (aa_cons ae_int (aa_cons ae_int (aa_cons (ae_tup aa_nil) (aa_cons ae_int aa_nil))))))))))))
theorem grp_0 {z : Ad} (T : Txt K mg z) (C_inner_of : Cal false P w K mg base "inner_of" 1 1 [] (fun ds _ => ds) (PK.S_inner_of z))  {f_walked : Addr} {fd_walked : FuncData} (F_walked : L2.Fun K "walked" "walked" s_walked f_walked fd_walked) (m_walked : mg "walked" = some (.ref f_walked)) (k_walked : PySem.W.keepIn K (.ref f_walked) = true) (B_C_walked : Bnd K fd_walked ["body", "place"] 2 [] (fun ds _ => ds)) : ∀ n, FnG false P w K mg base (1 + n) f_walked fd_walked ["body", "place"] (PK.S_walked z n) := by
  intro n
  induction n with
  | zero => exact fng_none (PK.no_walked z)
  | succ n ih =>
    have g_walked := ih
    have C_walked : Cal false P w K mg base "walked" (1 + n) 2 [] (fun ds _ => ds) (PK.S_walked z n) := ⟨⟨f_walked, _, _, m_walked, k_walked, g_walked, B_C_walked⟩⟩
    exact fng_of F_walked sc_walked (PK.len_walked z (n + 1)) (PK.mo_walked z (n + 1)) (fun cdv A outer s H E c => d_walked T n C_inner_of C_walked cdv A outer s H E c) (PK.p_walked z n)
theorem grp_1 {z : Ad} (T : Txt K mg z) (C_inner_of : Cal false P w K mg base "inner_of" 1 1 [] (fun ds _ => ds) (PK.S_inner_of z)) (C_is_head : Cal false P w K mg base "is_head" 3 1 [] (fun ds _ => ds) (PK.S_is_head z))  {f_wrong_in : Addr} {fd_wrong_in : FuncData} (F_wrong_in : L2.Fun K "wrong_in" "wrong_in" s_wrong_in f_wrong_in fd_wrong_in) (m_wrong_in : mg "wrong_in" = some (.ref f_wrong_in)) (k_wrong_in : PySem.W.keepIn K (.ref f_wrong_in) = true) (B_C_wrong_in : Bnd K fd_wrong_in ["body", "place", "count"] 3 [] (fun ds _ => ds)) : ∀ n, FnG false P w K mg base (3 + n) f_wrong_in fd_wrong_in ["body", "place", "count"] (PK.S_wrong_in z n) := by
  intro n
  induction n with
  | zero => exact fng_none (PK.no_wrong_in z)
  | succ n ih =>
    have g_wrong_in := ih
    have C_wrong_in : Cal false P w K mg base "wrong_in" (3 + n) 3 [] (fun ds _ => ds) (PK.S_wrong_in z n) := ⟨⟨f_wrong_in, _, _, m_wrong_in, k_wrong_in, g_wrong_in, B_C_wrong_in⟩⟩
    exact fng_of F_wrong_in sc_wrong_in (PK.len_wrong_in z (n + 1)) (PK.mo_wrong_in z (n + 1)) (fun cdv A outer s H E c => d_wrong_in T n C_inner_of C_is_head C_wrong_in cdv A outer s H E c) (PK.p_wrong_in z n)
theorem grp_2 {z : Ad} (T : Txt K mg z) (C_inner_of : Cal false P w K mg base "inner_of" 1 1 [] (fun ds _ => ds) (PK.S_inner_of z))  {f_size_in : Addr} {fd_size_in : FuncData} (F_size_in : L2.Fun K "size_in" "size_in" s_size_in f_size_in fd_size_in) (m_size_in : mg "size_in" = some (.ref f_size_in)) (k_size_in : PySem.W.keepIn K (.ref f_size_in) = true) (B_C_size_in : Bnd K fd_size_in ["body"] 1 [] (fun ds _ => ds)) : ∀ n, FnG false P w K mg base (1 + n) f_size_in fd_size_in ["body"] (PK.S_size_in z n) := by
  intro n
  induction n with
  | zero => exact fng_none (PK.no_size_in z)
  | succ n ih =>
    have g_size_in := ih
    have C_size_in : Cal false P w K mg base "size_in" (1 + n) 1 [] (fun ds _ => ds) (PK.S_size_in z n) := ⟨⟨f_size_in, _, _, m_size_in, k_size_in, g_size_in, B_C_size_in⟩⟩
    exact fng_of F_size_in sc_size_in (PK.len_size_in z (n + 1)) (PK.mo_size_in z (n + 1)) (fun cdv A outer s H E c => d_size_in T n C_inner_of C_size_in cdv A outer s H E c) (PK.p_size_in z n)
theorem grp_3 {z : Ad} (T : Txt K mg z) (C_bytes_of : Cal false P w K mg base "bytes_of" 1 1 [] (fun ds _ => ds) (PK.S_bytes_of z))  {f_bytes_in : Addr} {fd_bytes_in : FuncData} (F_bytes_in : L2.Fun K "bytes_in" "bytes_in" s_bytes_in f_bytes_in fd_bytes_in) (m_bytes_in : mg "bytes_in" = some (.ref f_bytes_in)) (k_bytes_in : PySem.W.keepIn K (.ref f_bytes_in) = true) (B_C_bytes_in : Bnd K fd_bytes_in ["body"] 1 [] (fun ds _ => ds)) : ∀ n, FnG false P w K mg base (1 + n) f_bytes_in fd_bytes_in ["body"] (PK.S_bytes_in z n) := by
  intro n
  induction n with
  | zero => exact fng_none (PK.no_bytes_in z)
  | succ n ih =>
    have g_bytes_in := ih
    have C_bytes_in : Cal false P w K mg base "bytes_in" (1 + n) 1 [] (fun ds _ => ds) (PK.S_bytes_in z n) := ⟨⟨f_bytes_in, _, _, m_bytes_in, k_bytes_in, g_bytes_in, B_C_bytes_in⟩⟩
    exact fng_of F_bytes_in sc_bytes_in (PK.len_bytes_in z (n + 1)) (PK.mo_bytes_in z (n + 1)) (fun cdv A outer s H E c => d_bytes_in T n C_bytes_in C_bytes_of cdv A outer s H E c) (PK.p_bytes_in z n)
theorem grp_4 {z : Ad} (T : Txt K mg z) (C_bytes_in : Cal false P w K mg base "bytes_in" 17 1 [] (fun ds _ => ds) (PK.S_bytes_in z 16)) (C_bytes_of : Cal false P w K mg base "bytes_of" 1 1 [] (fun ds _ => ds) (PK.S_bytes_of z))  {f_reach_in : Addr} {fd_reach_in : FuncData} (F_reach_in : L2.Fun K "reach_in" "reach_in" s_reach_in f_reach_in fd_reach_in) (m_reach_in : mg "reach_in" = some (.ref f_reach_in)) (k_reach_in : PySem.W.keepIn K (.ref f_reach_in) = true) (B_C_reach_in : Bnd K fd_reach_in ["body"] 1 [] (fun ds _ => ds)) : ∀ n, FnG false P w K mg base (17 + n) f_reach_in fd_reach_in ["body"] (PK.S_reach_in z n) := by
  intro n
  induction n with
  | zero => exact fng_none (PK.no_reach_in z)
  | succ n ih =>
    have g_reach_in := ih
    have C_reach_in : Cal false P w K mg base "reach_in" (17 + n) 1 [] (fun ds _ => ds) (PK.S_reach_in z n) := ⟨⟨f_reach_in, _, _, m_reach_in, k_reach_in, g_reach_in, B_C_reach_in⟩⟩
    exact fng_of F_reach_in sc_reach_in (PK.len_reach_in z (n + 1)) (PK.mo_reach_in z (n + 1)) (fun cdv A outer s H E c => d_reach_in T n C_bytes_in C_bytes_of C_reach_in cdv A outer s H E c) (PK.p_reach_in z n)
theorem grp_5 {z : Ad} (T : Txt K mg z)   {f_unrolled_in : Addr} {fd_unrolled_in : FuncData} (F_unrolled_in : L2.Fun K "unrolled_in" "unrolled_in" s_unrolled_in f_unrolled_in fd_unrolled_in) (m_unrolled_in : mg "unrolled_in" = some (.ref f_unrolled_in)) (k_unrolled_in : PySem.W.keepIn K (.ref f_unrolled_in) = true) (B_C_unrolled_in : Bnd K fd_unrolled_in ["body"] 1 [] (fun ds _ => ds)) : ∀ n, FnG false P w K mg base (0 + n) f_unrolled_in fd_unrolled_in ["body"] (PK.S_unrolled_in z n) := by
  intro n
  induction n with
  | zero => exact fng_none (PK.no_unrolled_in z)
  | succ n ih =>
    have g_unrolled_in := ih
    have C_unrolled_in : Cal false P w K mg base "unrolled_in" (0 + n) 1 [] (fun ds _ => ds) (PK.S_unrolled_in z n) := ⟨⟨f_unrolled_in, _, _, m_unrolled_in, k_unrolled_in, g_unrolled_in, B_C_unrolled_in⟩⟩
    exact fng_of F_unrolled_in sc_unrolled_in (PK.len_unrolled_in z (n + 1)) (PK.mo_unrolled_in z (n + 1)) (fun cdv A outer s H E c => d_unrolled_in T n C_unrolled_in cdv A outer s H E c) (PK.p_unrolled_in z n)
theorem grp_7 {z : Ad} (T : Txt K mg z) (C__law_draw : Cal false P w K mg base "_law_draw" 1 2 [] (fun ds _ => ds) (F1.S__law_draw z))  {f__law_deeds : Addr} {fd__law_deeds : FuncData} (F__law_deeds : L2.Fun K "_law_deeds" "_law_deeds" s__law_deeds f__law_deeds fd__law_deeds) (m__law_deeds : mg "_law_deeds" = some (.ref f__law_deeds)) (k__law_deeds : PySem.W.keepIn K (.ref f__law_deeds) = true) (B_C__law_deeds : Bnd K fd__law_deeds ["_law_pen_here", "_law_deep", "_law_words_here", "_law_most_here"] 4 [] (fun ds _ => ds)) : ∀ n, FnG false P w K mg base (1 + n) f__law_deeds fd__law_deeds ["_law_pen_here", "_law_deep", "_law_words_here", "_law_most_here"] (F1.S__law_deeds z n) := by
  intro n
  induction n with
  | zero => exact fng_none (F1.no__law_deeds z)
  | succ n ih =>
    have g__law_deeds := ih
    have C__law_deeds : Cal false P w K mg base "_law_deeds" (1 + n) 4 [] (fun ds _ => ds) (F1.S__law_deeds z n) := ⟨⟨f__law_deeds, _, _, m__law_deeds, k__law_deeds, g__law_deeds, B_C__law_deeds⟩⟩
    exact fng_of F__law_deeds sc__law_deeds (F1.len__law_deeds z (n + 1)) (F1.mo__law_deeds z (n + 1)) (fun cdv A outer s H E c => d__law_deeds T n C__law_deeds C__law_draw cdv A outer s H E c) (F1.p__law_deeds z n)
theorem grp_8 {z : Ad} (T : Txt K mg z)   {f__law_size : Addr} {fd__law_size : FuncData} (F__law_size : L2.Fun K "_law_size" "_law_size" s__law_size f__law_size fd__law_size) (m__law_size : mg "_law_size" = some (.ref f__law_size)) (k__law_size : PySem.W.keepIn K (.ref f__law_size) = true) (B_C__law_size : Bnd K fd__law_size ["_law_deeds_here"] 1 [] (fun ds _ => ds)) : ∀ n, FnG false P w K mg base (0 + n) f__law_size fd__law_size ["_law_deeds_here"] (F1.S__law_size z n) := by
  intro n
  induction n with
  | zero => exact fng_none (F1.no__law_size z)
  | succ n ih =>
    have g__law_size := ih
    have C__law_size : Cal false P w K mg base "_law_size" (0 + n) 1 [] (fun ds _ => ds) (F1.S__law_size z n) := ⟨⟨f__law_size, _, _, m__law_size, k__law_size, g__law_size, B_C__law_size⟩⟩
    exact fng_of F__law_size sc__law_size (F1.len__law_size z (n + 1)) (F1.mo__law_size z (n + 1)) (fun cdv A outer s H E c => d__law_size T n C__law_size cdv A outer s H E c) (F1.p__law_size z n)
theorem grp_9 {z : Ad} (T : Txt K mg z) (C__law_bulk : Cal false P w K mg base "_law_bulk" 1 1 [] (fun ds _ => ds) (F1.S__law_bulk z))  {f__law_far : Addr} {fd__law_far : FuncData} (F__law_far : L2.Fun K "_law_far" "_law_far" s__law_far f__law_far fd__law_far) (m__law_far : mg "_law_far" = some (.ref f__law_far)) (k__law_far : PySem.W.keepIn K (.ref f__law_far) = true) (B_C__law_far : Bnd K fd__law_far ["_law_deeds_here"] 1 [] (fun ds _ => ds)) : ∀ n, FnG false P w K mg base (1 + n) f__law_far fd__law_far ["_law_deeds_here"] (F1.S__law_far z n) := by
  intro n
  induction n with
  | zero => exact fng_none (F1.no__law_far z)
  | succ n ih =>
    have g__law_far := ih
    have C__law_far : Cal false P w K mg base "_law_far" (1 + n) 1 [] (fun ds _ => ds) (F1.S__law_far z n) := ⟨⟨f__law_far, _, _, m__law_far, k__law_far, g__law_far, B_C__law_far⟩⟩
    exact fng_of F__law_far sc__law_far (F1.len__law_far z (n + 1)) (F1.mo__law_far z (n + 1)) (fun cdv A outer s H E c => d__law_far T n C__law_bulk C__law_far cdv A outer s H E c) (F1.p__law_far z n)
theorem grp_10 {z : Ad} (T : Txt K mg z)   {f__law_flat : Addr} {fd__law_flat : FuncData} (F__law_flat : L2.Fun K "_law_flat" "_law_flat" s__law_flat f__law_flat fd__law_flat) (m__law_flat : mg "_law_flat" = some (.ref f__law_flat)) (k__law_flat : PySem.W.keepIn K (.ref f__law_flat) = true) (B_C__law_flat : Bnd K fd__law_flat ["_law_deeds_here"] 1 [] (fun ds _ => ds)) : ∀ n, FnG false P w K mg base (0 + n) f__law_flat fd__law_flat ["_law_deeds_here"] (F1.S__law_flat z n) := by
  intro n
  induction n with
  | zero => exact fng_none (F1.no__law_flat z)
  | succ n ih =>
    have g__law_flat := ih
    have C__law_flat : Cal false P w K mg base "_law_flat" (0 + n) 1 [] (fun ds _ => ds) (F1.S__law_flat z n) := ⟨⟨f__law_flat, _, _, m__law_flat, k__law_flat, g__law_flat, B_C__law_flat⟩⟩
    exact fng_of F__law_flat sc__law_flat (F1.len__law_flat z (n + 1)) (F1.mo__law_flat z (n + 1)) (fun cdv A outer s H E c => d__law_flat T n C__law_flat cdv A outer s H E c) (F1.p__law_flat z n)
theorem grp_11 {z : Ad} (T : Txt K mg z)   {f__law_all_words : Addr} {fd__law_all_words : FuncData} (F__law_all_words : L2.Fun K "_law_all_words" "_law_all_words" s__law_all_words f__law_all_words fd__law_all_words) (m__law_all_words : mg "_law_all_words" = some (.ref f__law_all_words)) (k__law_all_words : PySem.W.keepIn K (.ref f__law_all_words) = true) (B_C__law_all_words : Bnd K fd__law_all_words ["_law_deeds_here"] 1 [] (fun ds _ => ds)) : ∀ n, FnG false P w K mg base (0 + n) f__law_all_words fd__law_all_words ["_law_deeds_here"] (F1.S__law_all_words z n) := by
  intro n
  induction n with
  | zero => exact fng_none (F1.no__law_all_words z)
  | succ n ih =>
    have g__law_all_words := ih
    have C__law_all_words : Cal false P w K mg base "_law_all_words" (0 + n) 1 [] (fun ds _ => ds) (F1.S__law_all_words z n) := ⟨⟨f__law_all_words, _, _, m__law_all_words, k__law_all_words, g__law_all_words, B_C__law_all_words⟩⟩
    exact fng_of F__law_all_words sc__law_all_words (F1.len__law_all_words z (n + 1)) (F1.mo__law_all_words z (n + 1)) (fun cdv A outer s H E c => d__law_all_words T n C__law_all_words cdv A outer s H E c) (F1.p__law_all_words z n)
theorem grp_12 {z : Ad} (T : Txt K mg z) (C__law_bulk : Cal false P w K mg base "_law_bulk" 1 1 [] (fun ds _ => ds) (F1.S__law_bulk z))  {f__law_most : Addr} {fd__law_most : FuncData} (F__law_most : L2.Fun K "_law_most" "_law_most" s__law_most f__law_most fd__law_most) (m__law_most : mg "_law_most" = some (.ref f__law_most)) (k__law_most : PySem.W.keepIn K (.ref f__law_most) = true) (B_C__law_most : Bnd K fd__law_most ["_law_flat_here", "_law_here"] 2 [] (fun ds _ => ds)) : ∀ n, FnG false P w K mg base (1 + n) f__law_most fd__law_most ["_law_flat_here", "_law_here"] (S__law_most z n) := by
  intro n
  induction n with
  | zero => exact fng_none (no__law_most z)
  | succ n ih =>
    have g__law_most := ih
    have C__law_most : Cal false P w K mg base "_law_most" (1 + n) 2 [] (fun ds _ => ds) (S__law_most z n) := ⟨⟨f__law_most, _, _, m__law_most, k__law_most, g__law_most, B_C__law_most⟩⟩
    exact fng_of F__law_most sc__law_most (len__law_most z (n + 1)) (mo__law_most z (n + 1)) (fun cdv A outer s H E c => d__law_most T n C__law_bulk C__law_most cdv A outer s H E c) (p__law_most z n)
end
end K06
namespace K06
open PySem PySem.Spec L2 C8 DL PK PyProof.Rows
/-! ### what the top has written, and the law's head (printed by gen4.py) -/
theorem all_mk {l : PySem.W.OpenLaw} {w : World} {K : PySem.W.Frag} {h : Heap} {mg : Str → Option Value} {fa : Addr} (X : K.In h) (G : h.Ns mainGlobals mg) (hfa : mg "law" = some (.ref fa))
    {f0 : Addr} {od0 an0 : Option Addr} {sl0 : Array (Option Value)} {oc0 kV0 dc0 pm0 cd0 ct0 : Value}
    {f1 : Addr} {od1 an1 : Option Addr} {sl1 : Array (Option Value)} {oc1 kV1 dc1 pm1 cd1 ct1 : Value}
    {f2 : Addr} {od2 an2 : Option Addr} {sl2 : Array (Option Value)} {oc2 kV2 dc2 pm2 cd2 ct2 : Value}
    {f3 : Addr} {od3 an3 : Option Addr} {sl3 : Array (Option Value)} {oc3 kV3 dc3 pm3 cd3 ct3 : Value}
    {f4 : Addr} {od4 an4 : Option Addr} {sl4 : Array (Option Value)} {oc4 kV4 dc4 pm4 cd4 ct4 : Value}
    {f5 : Addr} {od5 an5 : Option Addr} {sl5 : Array (Option Value)} {oc5 kV5 dc5 pm5 cd5 ct5 : Value}
    {f6 : Addr} {od6 an6 : Option Addr} {sl6 : Array (Option Value)} {oc6 kV6 dc6 pm6 cd6 ct6 : Value}
    {f7 : Addr} {od7 an7 : Option Addr} {sl7 : Array (Option Value)} {oc7 kV7 dc7 pm7 cd7 ct7 : Value}
    {f8 : Addr} {od8 an8 : Option Addr} {sl8 : Array (Option Value)} {oc8 kV8 dc8 pm8 cd8 ct8 : Value}
    {f9 : Addr} {od9 an9 : Option Addr} {sl9 : Array (Option Value)} {oc9 kV9 dc9 pm9 cd9 ct9 : Value}
    {f10 : Addr} {od10 an10 : Option Addr} {sl10 : Array (Option Value)} {oc10 kV10 dc10 pm10 cd10 ct10 : Value}
    {f11 : Addr} {od11 an11 : Option Addr} {sl11 : Array (Option Value)} {oc11 kV11 dc11 pm11 cd11 ct11 : Value}
    {f12 : Addr} {od12 an12 : Option Addr} {sl12 : Array (Option Value)} {oc12 kV12 dc12 pm12 cd12 ct12 : Value}
    {f13 : Addr} {od13 an13 : Option Addr} {sl13 : Array (Option Value)} {oc13 kV13 dc13 pm13 cd13 ct13 : Value}
    {f14 : Addr} {od14 an14 : Option Addr} {sl14 : Array (Option Value)} {oc14 kV14 dc14 pm14 cd14 ct14 : Value}
    {f15 : Addr} {od15 an15 : Option Addr} {sl15 : Array (Option Value)} {oc15 kV15 dc15 pm15 cd15 ct15 : Value}
    {f16 : Addr} {od16 an16 : Option Addr} {sl16 : Array (Option Value)} {oc16 kV16 dc16 pm16 cd16 ct16 : Value}
    {f17 : Addr} {od17 an17 : Option Addr} {sl17 : Array (Option Value)} {oc17 kV17 dc17 pm17 cd17 ct17 : Value}
    {f18 : Addr} {od18 an18 : Option Addr} {sl18 : Array (Option Value)} {oc18 kV18 dc18 pm18 cd18 ct18 : Value}
    {f19 : Addr} {od19 an19 : Option Addr} {sl19 : Array (Option Value)} {oc19 kV19 dc19 pm19 cd19 ct19 : Value}
    {f20 : Addr} {od20 an20 : Option Addr} {sl20 : Array (Option Value)} {oc20 kV20 dc20 pm20 cd20 ct20 : Value}
    {f21 : Addr} {od21 an21 : Option Addr} {sl21 : Array (Option Value)} {oc21 kV21 dc21 pm21 cd21 ct21 : Value}
    {f22 : Addr} {od22 an22 : Option Addr} {sl22 : Array (Option Value)} {oc22 kV22 dc22 pm22 cd22 ct22 : Value}
    {f23 : Addr} {od23 an23 : Option Addr} {sl23 : Array (Option Value)} {oc23 kV23 dc23 pm23 cd23 ct23 : Value}
    {f24 : Addr} {od24 an24 : Option Addr} {sl24 : Array (Option Value)} {oc24 kV24 dc24 pm24 cd24 ct24 : Value}
    {f25 : Addr} {od25 an25 : Option Addr} {sl25 : Array (Option Value)} {oc25 kV25 dc25 pm25 cd25 ct25 : Value}
    {f26 : Addr} {od26 an26 : Option Addr} {sl26 : Array (Option Value)} {oc26 kV26 dc26 pm26 cd26 ct26 : Value}
    {f27 : Addr} {od27 an27 : Option Addr} {sl27 : Array (Option Value)} {oc27 kV27 dc27 pm27 cd27 ct27 : Value}
    {f28 : Addr} {od28 an28 : Option Addr} {sl28 : Array (Option Value)} {oc28 kV28 dc28 pm28 cd28 ct28 : Value}
    {f29 : Addr} {od29 an29 : Option Addr} {sl29 : Array (Option Value)} {oc29 kV29 dc29 pm29 cd29 ct29 : Value}
    {f30 : Addr} {od30 an30 : Option Addr} {sl30 : Array (Option Value)} {oc30 kV30 dc30 pm30 cd30 ct30 : Value}
    {f31 : Addr} {od31 an31 : Option Addr} {sl31 : Array (Option Value)} {oc31 kV31 dc31 pm31 cd31 ct31 : Value}
    {f32 : Addr} {od32 an32 : Option Addr} {sl32 : Array (Option Value)} {oc32 kV32 dc32 pm32 cd32 ct32 : Value}
    {A_LineProgram A_Program : Addr}
    {p14 : Addr} {rs14 : List Value}
    {p15 : Addr} {rs15 : List Value}
    {p16 : Addr} {rs16 : List Value}
    {p17 : Addr} {rs17 : List Value}
    {p18 : Addr} {rs18 : List Value}
    {p19 : Addr} {rs19 : List Value}
    (aC0 : PySem.W.nsIn K mainGlobals "LineProgram" = some (some (.ref A_LineProgram))) (pg0 : PySem.W.plainGet K A_LineProgram Str.empty = true) (hd0 : PySem.W.hasDictIn K A_LineProgram = true) (po0 : PySem.W.plainOver K A_LineProgram = true) (sa0 : PySem.W.findIn K (.ref A_LineProgram) "__setattr__" = some (some (.builtin "object.__setattr__"))) (mk0 : PySem.W.makesIn K A_LineProgram = true) (kc0 : PySem.W.keepIn K (.ref A_LineProgram) = true) (sf0 : PySem.W.selfFirst K A_LineProgram = true)
    (nf0 : PySem.W.findIn K (.ref A_LineProgram) "held" = some none)
    (aC1 : PySem.W.nsIn K mainGlobals "Program" = some (some (.ref A_Program))) (pg1 : PySem.W.plainGet K A_Program Str.empty = true) (hd1 : PySem.W.hasDictIn K A_Program = true) (po1 : PySem.W.plainOver K A_Program = true) (sa1 : PySem.W.findIn K (.ref A_Program) "__setattr__" = some (some (.builtin "object.__setattr__"))) (mk1 : PySem.W.makesIn K A_Program = true) (kc1 : PySem.W.keepIn K (.ref A_Program) = true) (sf1 : PySem.W.selfFirst K A_Program = true)
    (nf1 : PySem.W.findIn K (.ref A_Program) "held" = some none)
    (a0 : PySem.W.nsIn K mainGlobals "is_integer" = some (some (.ref f0))) (l0 : K.lookup f0 = some ⟨oc0, od0, .func (PySem.W.fnOf "is_integer" "is_integer" (defArgs s_is_integer) (defBody s_is_integer) (defScope s_is_integer) .none kV0 dc0 pm0 an0 cd0 ct0), sl0⟩) (c0 : PySem.W.codeIn K cd0 "is_integer" = true) (k0 : PySem.W.keepIn K (.ref f0) = true)
    (a1 : PySem.W.nsIn K mainGlobals "is_between" = some (some (.ref f1))) (l1 : K.lookup f1 = some ⟨oc1, od1, .func (PySem.W.fnOf "is_between" "is_between" (defArgs s_is_between) (defBody s_is_between) (defScope s_is_between) .none kV1 dc1 pm1 an1 cd1 ct1), sl1⟩) (c1 : PySem.W.codeIn K cd1 "is_between" = true) (k1 : PySem.W.keepIn K (.ref f1) = true)
    (a2 : PySem.W.nsIn K mainGlobals "is_head" = some (some (.ref f2))) (l2 : K.lookup f2 = some ⟨oc2, od2, .func (PySem.W.fnOf "is_head" "is_head" (defArgs s_is_head) (defBody s_is_head) (defScope s_is_head) .none kV2 dc2 pm2 an2 cd2 ct2), sl2⟩) (c2 : PySem.W.codeIn K cd2 "is_head" = true) (k2 : PySem.W.keepIn K (.ref f2) = true)
    (a3 : PySem.W.nsIn K mainGlobals "inner_of" = some (some (.ref f3))) (l3 : K.lookup f3 = some ⟨oc3, od3, .func (PySem.W.fnOf "inner_of" "inner_of" (defArgs s_inner_of) (defBody s_inner_of) (defScope s_inner_of) .none kV3 dc3 pm3 an3 cd3 ct3), sl3⟩) (c3 : PySem.W.codeIn K cd3 "inner_of" = true) (k3 : PySem.W.keepIn K (.ref f3) = true)
    (a4 : PySem.W.nsIn K mainGlobals "bytes_of" = some (some (.ref f4))) (l4 : K.lookup f4 = some ⟨oc4, od4, .func (PySem.W.fnOf "bytes_of" "bytes_of" (defArgs s_bytes_of) (defBody s_bytes_of) (defScope s_bytes_of) .none kV4 dc4 pm4 an4 cd4 ct4), sl4⟩) (c4 : PySem.W.codeIn K cd4 "bytes_of" = true) (k4 : PySem.W.keepIn K (.ref f4) = true)
    (a5 : PySem.W.nsIn K mainGlobals "walked" = some (some (.ref f5))) (l5 : K.lookup f5 = some ⟨oc5, od5, .func (PySem.W.fnOf "walked" "walked" (defArgs s_walked) (defBody s_walked) (defScope s_walked) .none kV5 dc5 pm5 an5 cd5 ct5), sl5⟩) (c5 : PySem.W.codeIn K cd5 "walked" = true) (k5 : PySem.W.keepIn K (.ref f5) = true)
    (a6 : PySem.W.nsIn K mainGlobals "wrong_in" = some (some (.ref f6))) (l6 : K.lookup f6 = some ⟨oc6, od6, .func (PySem.W.fnOf "wrong_in" "wrong_in" (defArgs s_wrong_in) (defBody s_wrong_in) (defScope s_wrong_in) .none kV6 dc6 pm6 an6 cd6 ct6), sl6⟩) (c6 : PySem.W.codeIn K cd6 "wrong_in" = true) (k6 : PySem.W.keepIn K (.ref f6) = true)
    (a7 : PySem.W.nsIn K mainGlobals "first_wrong" = some (some (.ref f7))) (l7 : K.lookup f7 = some ⟨oc7, od7, .func (PySem.W.fnOf "first_wrong" "first_wrong" (defArgs s_first_wrong) (defBody s_first_wrong) (defScope s_first_wrong) .none kV7 dc7 pm7 an7 cd7 ct7), sl7⟩) (c7 : PySem.W.codeIn K cd7 "first_wrong" = true) (k7 : PySem.W.keepIn K (.ref f7) = true)
    (a8 : PySem.W.nsIn K mainGlobals "size_in" = some (some (.ref f8))) (l8 : K.lookup f8 = some ⟨oc8, od8, .func (PySem.W.fnOf "size_in" "size_in" (defArgs s_size_in) (defBody s_size_in) (defScope s_size_in) .none kV8 dc8 pm8 an8 cd8 ct8), sl8⟩) (c8 : PySem.W.codeIn K cd8 "size_in" = true) (k8 : PySem.W.keepIn K (.ref f8) = true)
    (a9 : PySem.W.nsIn K mainGlobals "bytes_in" = some (some (.ref f9))) (l9 : K.lookup f9 = some ⟨oc9, od9, .func (PySem.W.fnOf "bytes_in" "bytes_in" (defArgs s_bytes_in) (defBody s_bytes_in) (defScope s_bytes_in) .none kV9 dc9 pm9 an9 cd9 ct9), sl9⟩) (c9 : PySem.W.codeIn K cd9 "bytes_in" = true) (k9 : PySem.W.keepIn K (.ref f9) = true)
    (a10 : PySem.W.nsIn K mainGlobals "reach_in" = some (some (.ref f10))) (l10 : K.lookup f10 = some ⟨oc10, od10, .func (PySem.W.fnOf "reach_in" "reach_in" (defArgs s_reach_in) (defBody s_reach_in) (defScope s_reach_in) .none kV10 dc10 pm10 an10 cd10 ct10), sl10⟩) (c10 : PySem.W.codeIn K cd10 "reach_in" = true) (k10 : PySem.W.keepIn K (.ref f10) = true)
    (a11 : PySem.W.nsIn K mainGlobals "unrolled_in" = some (some (.ref f11))) (l11 : K.lookup f11 = some ⟨oc11, od11, .func (PySem.W.fnOf "unrolled_in" "unrolled_in" (defArgs s_unrolled_in) (defBody s_unrolled_in) (defScope s_unrolled_in) .none kV11 dc11 pm11 an11 cd11 ct11), sl11⟩) (c11 : PySem.W.codeIn K cd11 "unrolled_in" = true) (k11 : PySem.W.keepIn K (.ref f11) = true)
    (a12 : PySem.W.nsIn K mainGlobals "words_in" = some (some (.ref f12))) (l12 : K.lookup f12 = some ⟨oc12, od12, .func (PySem.W.fnOf "words_in" "words_in" (defArgs s_words_in) (defBody s_words_in) (defScope s_words_in) .none kV12 dc12 pm12 an12 cd12 ct12), sl12⟩) (c12 : PySem.W.codeIn K cd12 "words_in" = true) (k12 : PySem.W.keepIn K (.ref f12) = true)
    (a13_LineProgram : PySem.W.findIn K (.ref A_LineProgram) "__init__" = some (some (.ref f13))) (a13_Program : PySem.W.findIn K (.ref A_Program) "__init__" = some (some (.ref f13))) (i13 : PySem.W.isFn K (.ref f13) = true) (j13 : PySem.W.fnIn K f13 = true) (l13 : K.lookup f13 = some ⟨oc13, od13, .func (PySem.W.fnOf "__init__" "Program.__init__" (defArgs s_Program___init__) (defBody s_Program___init__) (defScope s_Program___init__) .none kV13 dc13 pm13 an13 cd13 ct13), sl13⟩) (c13 : PySem.W.codeIn K cd13 "Program.__init__" = true) (k13 : PySem.W.keepIn K (.ref f13) = true)
    (rd14_LineProgram : PySem.W.readsIn K A_LineProgram (.type "type") = true) (ga14_LineProgram : PySem.W.specialIn K (.ref A_LineProgram) "__getattribute__" = some (some (.builtin "type.__getattribute__"))) (a14_LineProgram : PySem.W.findCls K (.ref A_LineProgram) (.type "type") "of" = some (.get (.builtin "classmethod.__get__") (.ref p14) .none (.ref A_LineProgram))) (rd14_Program : PySem.W.readsIn K A_Program (.type "type") = true) (ga14_Program : PySem.W.specialIn K (.ref A_Program) "__getattribute__" = some (some (.builtin "type.__getattribute__"))) (a14_Program : PySem.W.findCls K (.ref A_Program) (.type "type") "of" = some (.get (.builtin "classmethod.__get__") (.ref p14) .none (.ref A_Program))) (pc14 : PySem.W.recIn K p14 "classmethod" = some (.ref f14 :: rs14)) (j14 : PySem.W.fnIn K f14 = true) (l14 : K.lookup f14 = some ⟨oc14, od14, .func (PySem.W.fnOf "of" "Program.of" (defArgs s_Program_of) (defBody s_Program_of) (defScope s_Program_of) .none kV14 dc14 pm14 an14 cd14 ct14), sl14⟩) (c14 : PySem.W.codeIn K cd14 "Program.of" = true) (k14 : PySem.W.keepIn K (.ref f14) = true)
    (a15_LineProgram : PySem.W.findIn K (.ref A_LineProgram) "body" = some (some (.ref p15))) (a15_Program : PySem.W.findIn K (.ref A_Program) "body" = some (some (.ref p15))) (pa15 : PySem.W.specialIn K (.ref p15) "__get__" = some (some (.builtin "property.__get__"))) (pb15 : PySem.W.takesIn K (.ref p15) = some true) (pc15 : PySem.W.recIn K p15 "property" = some (.ref f15 :: rs15)) (l15 : K.lookup f15 = some ⟨oc15, od15, .func (PySem.W.fnOf "body" "Program.body" (defArgs s_Program_body) (defBody s_Program_body) (defScope s_Program_body) .none kV15 dc15 pm15 an15 cd15 ct15), sl15⟩) (c15 : PySem.W.codeIn K cd15 "Program.body" = true) (k15 : PySem.W.keepIn K (.ref f15) = true)
    (a16_LineProgram : PySem.W.findIn K (.ref A_LineProgram) "size" = some (some (.ref p16))) (a16_Program : PySem.W.findIn K (.ref A_Program) "size" = some (some (.ref p16))) (pa16 : PySem.W.specialIn K (.ref p16) "__get__" = some (some (.builtin "property.__get__"))) (pb16 : PySem.W.takesIn K (.ref p16) = some true) (pc16 : PySem.W.recIn K p16 "property" = some (.ref f16 :: rs16)) (l16 : K.lookup f16 = some ⟨oc16, od16, .func (PySem.W.fnOf "size" "Program.size" (defArgs s_Program_size) (defBody s_Program_size) (defScope s_Program_size) .none kV16 dc16 pm16 an16 cd16 ct16), sl16⟩) (c16 : PySem.W.codeIn K cd16 "Program.size" = true) (k16 : PySem.W.keepIn K (.ref f16) = true)
    (a17_LineProgram : PySem.W.findIn K (.ref A_LineProgram) "reach" = some (some (.ref p17))) (a17_Program : PySem.W.findIn K (.ref A_Program) "reach" = some (some (.ref p17))) (pa17 : PySem.W.specialIn K (.ref p17) "__get__" = some (some (.builtin "property.__get__"))) (pb17 : PySem.W.takesIn K (.ref p17) = some true) (pc17 : PySem.W.recIn K p17 "property" = some (.ref f17 :: rs17)) (l17 : K.lookup f17 = some ⟨oc17, od17, .func (PySem.W.fnOf "reach" "Program.reach" (defArgs s_Program_reach) (defBody s_Program_reach) (defScope s_Program_reach) .none kV17 dc17 pm17 an17 cd17 ct17), sl17⟩) (c17 : PySem.W.codeIn K cd17 "Program.reach" = true) (k17 : PySem.W.keepIn K (.ref f17) = true)
    (a18_LineProgram : PySem.W.findIn K (.ref A_LineProgram) "unrolled" = some (some (.ref p18))) (a18_Program : PySem.W.findIn K (.ref A_Program) "unrolled" = some (some (.ref p18))) (pa18 : PySem.W.specialIn K (.ref p18) "__get__" = some (some (.builtin "property.__get__"))) (pb18 : PySem.W.takesIn K (.ref p18) = some true) (pc18 : PySem.W.recIn K p18 "property" = some (.ref f18 :: rs18)) (l18 : K.lookup f18 = some ⟨oc18, od18, .func (PySem.W.fnOf "unrolled" "Program.unrolled" (defArgs s_Program_unrolled) (defBody s_Program_unrolled) (defScope s_Program_unrolled) .none kV18 dc18 pm18 an18 cd18 ct18), sl18⟩) (c18 : PySem.W.codeIn K cd18 "Program.unrolled" = true) (k18 : PySem.W.keepIn K (.ref f18) = true)
    (a19_LineProgram : PySem.W.findIn K (.ref A_LineProgram) "words" = some (some (.ref p19))) (a19_Program : PySem.W.findIn K (.ref A_Program) "words" = some (some (.ref p19))) (pa19 : PySem.W.specialIn K (.ref p19) "__get__" = some (some (.builtin "property.__get__"))) (pb19 : PySem.W.takesIn K (.ref p19) = some true) (pc19 : PySem.W.recIn K p19 "property" = some (.ref f19 :: rs19)) (l19 : K.lookup f19 = some ⟨oc19, od19, .func (PySem.W.fnOf "words" "Program.words" (defArgs s_Program_words) (defBody s_Program_words) (defScope s_Program_words) .none kV19 dc19 pm19 an19 cd19 ct19), sl19⟩) (c19 : PySem.W.codeIn K cd19 "Program.words" = true) (k19 : PySem.W.keepIn K (.ref f19) = true)
    (a20 : PySem.W.nsIn K mainGlobals "_law_pen" = some (some (.ref f20))) (l20 : K.lookup f20 = some ⟨oc20, od20, .func (PySem.W.fnOf "_law_pen" "_law_pen" (defArgs s__law_pen) (defBody s__law_pen) (defScope s__law_pen) .none kV20 dc20 pm20 an20 cd20 ct20), sl20⟩) (c20 : PySem.W.codeIn K cd20 "_law_pen" = true) (k20 : PySem.W.keepIn K (.ref f20) = true)
    (a21 : PySem.W.nsIn K mainGlobals "_law_draw" = some (some (.ref f21))) (l21 : K.lookup f21 = some ⟨oc21, od21, .func (PySem.W.fnOf "_law_draw" "_law_draw" (defArgs s__law_draw) (defBody s__law_draw) (defScope s__law_draw) .none kV21 dc21 pm21 an21 cd21 ct21), sl21⟩) (c21 : PySem.W.codeIn K cd21 "_law_draw" = true) (k21 : PySem.W.keepIn K (.ref f21) = true)
    (a22 : PySem.W.nsIn K mainGlobals "_law_deeds" = some (some (.ref f22))) (l22 : K.lookup f22 = some ⟨oc22, od22, .func (PySem.W.fnOf "_law_deeds" "_law_deeds" (defArgs s__law_deeds) (defBody s__law_deeds) (defScope s__law_deeds) .none kV22 dc22 pm22 an22 cd22 ct22), sl22⟩) (c22 : PySem.W.codeIn K cd22 "_law_deeds" = true) (k22 : PySem.W.keepIn K (.ref f22) = true)
    (a23 : PySem.W.nsIn K mainGlobals "_law_words" = some (some (.ref f23))) (l23 : K.lookup f23 = some ⟨oc23, od23, .func (PySem.W.fnOf "_law_words" "_law_words" (defArgs s__law_words) (defBody s__law_words) (defScope s__law_words) .none kV23 dc23 pm23 an23 cd23 ct23), sl23⟩) (c23 : PySem.W.codeIn K cd23 "_law_words" = true) (k23 : PySem.W.keepIn K (.ref f23) = true)
    (a24 : PySem.W.nsIn K mainGlobals "_law_bulk" = some (some (.ref f24))) (l24 : K.lookup f24 = some ⟨oc24, od24, .func (PySem.W.fnOf "_law_bulk" "_law_bulk" (defArgs s__law_bulk) (defBody s__law_bulk) (defScope s__law_bulk) .none kV24 dc24 pm24 an24 cd24 ct24), sl24⟩) (c24 : PySem.W.codeIn K cd24 "_law_bulk" = true) (k24 : PySem.W.keepIn K (.ref f24) = true)
    (a25 : PySem.W.nsIn K mainGlobals "_law_size" = some (some (.ref f25))) (l25 : K.lookup f25 = some ⟨oc25, od25, .func (PySem.W.fnOf "_law_size" "_law_size" (defArgs s__law_size) (defBody s__law_size) (defScope s__law_size) .none kV25 dc25 pm25 an25 cd25 ct25), sl25⟩) (c25 : PySem.W.codeIn K cd25 "_law_size" = true) (k25 : PySem.W.keepIn K (.ref f25) = true)
    (a26 : PySem.W.nsIn K mainGlobals "_law_far" = some (some (.ref f26))) (l26 : K.lookup f26 = some ⟨oc26, od26, .func (PySem.W.fnOf "_law_far" "_law_far" (defArgs s__law_far) (defBody s__law_far) (defScope s__law_far) .none kV26 dc26 pm26 an26 cd26 ct26), sl26⟩) (c26 : PySem.W.codeIn K cd26 "_law_far" = true) (k26 : PySem.W.keepIn K (.ref f26) = true)
    (a27 : PySem.W.nsIn K mainGlobals "_law_fitting" = some (some (.ref f27))) (l27 : K.lookup f27 = some ⟨oc27, od27, .func (PySem.W.fnOf "_law_fitting" "_law_fitting" (defArgs s__law_fitting) (defBody s__law_fitting) (defScope s__law_fitting) .none kV27 dc27 pm27 an27 cd27 ct27), sl27⟩) (c27 : PySem.W.codeIn K cd27 "_law_fitting" = true) (k27 : PySem.W.keepIn K (.ref f27) = true)
    (a28 : PySem.W.nsIn K mainGlobals "_law_job" = some (some (.ref f28))) (l28 : K.lookup f28 = some ⟨oc28, od28, .func (PySem.W.fnOf "_law_job" "_law_job" (defArgs s__law_job) (defBody s__law_job) (defScope s__law_job) .none kV28 dc28 pm28 an28 cd28 ct28), sl28⟩) (c28 : PySem.W.codeIn K cd28 "_law_job" = true) (k28 : PySem.W.keepIn K (.ref f28) = true)
    (a29 : PySem.W.nsIn K mainGlobals "_law_flat" = some (some (.ref f29))) (l29 : K.lookup f29 = some ⟨oc29, od29, .func (PySem.W.fnOf "_law_flat" "_law_flat" (defArgs s__law_flat) (defBody s__law_flat) (defScope s__law_flat) .none kV29 dc29 pm29 an29 cd29 ct29), sl29⟩) (c29 : PySem.W.codeIn K cd29 "_law_flat" = true) (k29 : PySem.W.keepIn K (.ref f29) = true)
    (a30 : PySem.W.nsIn K mainGlobals "_law_all_words" = some (some (.ref f30))) (l30 : K.lookup f30 = some ⟨oc30, od30, .func (PySem.W.fnOf "_law_all_words" "_law_all_words" (defArgs s__law_all_words) (defBody s__law_all_words) (defScope s__law_all_words) .none kV30 dc30 pm30 an30 cd30 ct30), sl30⟩) (c30 : PySem.W.codeIn K cd30 "_law_all_words" = true) (k30 : PySem.W.keepIn K (.ref f30) = true)
    (a31 : PySem.W.nsIn K mainGlobals "_law_most" = some (some (.ref f31))) (l31 : K.lookup f31 = some ⟨oc31, od31, .func (PySem.W.fnOf "_law_most" "_law_most" (defArgs s__law_most) (defBody s__law_most) (defScope s__law_most) .none kV31 dc31 pm31 an31 cd31 ct31), sl31⟩) (c31 : PySem.W.codeIn K cd31 "_law_most" = true) (k31 : PySem.W.keepIn K (.ref f31) = true)
    (a32 : PySem.W.nsIn K mainGlobals "law" = some (some (.ref f32))) (l32 : K.lookup f32 = some ⟨oc32, od32, .func (PySem.W.fnOf "law" "law" (defArgs s_law) (defBody s_law) (defScope s_law) .none kV32 dc32 pm32 an32 cd32 ct32), sl32⟩) (c32 : PySem.W.codeIn K cd32 "law" = true) (k32 : PySem.W.keepIn K (.ref f32) = true)
    (z0 : PySem.W.nsIn K mainGlobals "abs" = some none)
    (z1 : PySem.W.nsIn K mainGlobals "bool" = some none)
    (z2 : PySem.W.nsIn K mainGlobals "enumerate" = some none)
    (z3 : PySem.W.nsIn K mainGlobals "int" = some none)
    (z4 : PySem.W.nsIn K mainGlobals "isinstance" = some none)
    (z5 : PySem.W.nsIn K mainGlobals "len" = some none)
    (z6 : PySem.W.nsIn K mainGlobals "list" = some none)
    (z7 : PySem.W.nsIn K mainGlobals "max" = some none)
    (z8 : PySem.W.nsIn K mainGlobals "range" = some none)
    (z9 : PySem.W.nsIn K mainGlobals "repr" = some none)
    (z10 : PySem.W.nsIn K mainGlobals "str" = some none)
    (z11 : PySem.W.nsIn K mainGlobals "tuple" = some none)
    {t0 : Addr} {td0 : Option Addr} {ti0 : Array Value} {tm0 : Nat} {ts0 : Array (Option Value)} (g0 : PySem.W.nsIn K mainGlobals "BARE" = some (some (Value.ref t0))) (gt0 : K.lookup t0 = some ⟨.type "tuple", td0, .seq ti0 tm0, ts0⟩) (gz0 : ti0.size ≤ 1000) (gs0 : strsOf ti0.toList = some [("line" : Str), ("flush" : Str), ("drop" : Str), ("both" : Str), ("exit" : Str), ("quit" : Str)])
    {t1 : Tok} (g1 : PySem.W.nsIn K mainGlobals "FORK" = some (some (Value.str "fork" t1)))
    {t2 : Tok} (g2 : PySem.W.nsIn K mainGlobals "LINE" = some (some (Value.str "line" t2)))
    {t3 : Tok} (g3 : PySem.W.nsIn K mainGlobals "MOST_ACTIONS" = some (some (Value.int 300 t3)))
    {t4 : Tok} (g4 : PySem.W.nsIn K mainGlobals "MOST_BYTES" = some (some (Value.int 2000 t4)))
    {t5 : Tok} (g5 : PySem.W.nsIn K mainGlobals "MOST_BYTES_HERE" = some (some (Value.int 2000 t5)))
    {t6 : Tok} (g6 : PySem.W.nsIn K mainGlobals "MOST_DEPTH" = some (some (Value.int 6 t6)))
    {t7 : Tok} (g7 : PySem.W.nsIn K mainGlobals "MOST_POINTS_HERE" = some (some (Value.int 2000 t7)))
    {t8 : Tok} (g8 : PySem.W.nsIn K mainGlobals "MOST_TURNS" = some (some (Value.int 300 t8)))
    {t9 : Tok} (g9 : PySem.W.nsIn K mainGlobals "REPEAT" = some (some (Value.str "repeat" t9)))
    {t10 : Tok} (g10 : PySem.W.nsIn K mainGlobals "WRITE" = some (some (Value.str "write" t10)))
    : ∃ fd : FuncData, (∀ (s : Shared) (v : Value), BindsTo s fd ⟨[v], []⟩ [("_law_script", v)]) ∧ ∀ base : Heap, K.In base → base.Ns mainGlobals mg → FnG true l.prog w K mg base 37 fa fd ["_law_script"] S_law := by
  have e := hfa.symm.trans (PySem.W.mg_of X G a32)
  cases e
  let z : Ad := { LineProgram := A_LineProgram, Program := A_Program }
  have T : Txt K mg z := ⟨⟨pg0, hd0, po0, sa0⟩, ⟨pg1, hd1, po1, sa1⟩, nf0, nf1, cst_ref (PySem.W.mg_of X G aC0), cst_ref (PySem.W.mg_of X G aC1), PySem.W.mg_none_of X G z0, PySem.W.mg_none_of X G z1, PySem.W.mg_none_of X G z2, PySem.W.mg_none_of X G z3, PySem.W.mg_none_of X G z4, PySem.W.mg_none_of X G z5, PySem.W.mg_none_of X G z6, PySem.W.mg_none_of X G z7, PySem.W.mg_none_of X G z8, PySem.W.mg_none_of X G z9, PySem.W.mg_none_of X G z10, PySem.W.mg_none_of X G z11, cst_strs (PySem.W.mg_of X G g0) gt0 gz0 gs0, cst_str (PySem.W.mg_of X G g1), cst_str (PySem.W.mg_of X G g2), cst_int (PySem.W.mg_of X G g3), cst_int (PySem.W.mg_of X G g4), cst_int (PySem.W.mg_of X G g5), cst_int (PySem.W.mg_of X G g6), cst_int (PySem.W.mg_of X G g7), cst_int (PySem.W.mg_of X G g8), cst_str (PySem.W.mg_of X G g9), cst_str (PySem.W.mg_of X G g10)⟩
  have Fu0 := fun_mk (st := s_is_integer) l0 c0 k0
  have Fu1 := fun_mk (st := s_is_between) l1 c1 k1
  have Fu2 := fun_mk (st := s_is_head) l2 c2 k2
  have Fu3 := fun_mk (st := s_inner_of) l3 c3 k3
  have Fu4 := fun_mk (st := s_bytes_of) l4 c4 k4
  have Fu5 := fun_mk (st := s_walked) l5 c5 k5
  have Fu6 := fun_mk (st := s_wrong_in) l6 c6 k6
  have Fu7 := fun_mk (st := s_first_wrong) l7 c7 k7
  have Fu8 := fun_mk (st := s_size_in) l8 c8 k8
  have Fu9 := fun_mk (st := s_bytes_in) l9 c9 k9
  have Fu10 := fun_mk (st := s_reach_in) l10 c10 k10
  have Fu11 := fun_mk (st := s_unrolled_in) l11 c11 k11
  have Fu12 := fun_mk (st := s_words_in) l12 c12 k12
  have Fu13 := fun_mk (st := s_Program___init__) l13 c13 k13
  have Fu14 := fun_mk (st := s_Program_of) l14 c14 k14
  have Fu15 := fun_mk (st := s_Program_body) l15 c15 k15
  have Fu16 := fun_mk (st := s_Program_size) l16 c16 k16
  have Fu17 := fun_mk (st := s_Program_reach) l17 c17 k17
  have Fu18 := fun_mk (st := s_Program_unrolled) l18 c18 k18
  have Fu19 := fun_mk (st := s_Program_words) l19 c19 k19
  have Fu20 := fun_mk (st := s__law_pen) l20 c20 k20
  have Fu21 := fun_mk (st := s__law_draw) l21 c21 k21
  have Fu22 := fun_mk (st := s__law_deeds) l22 c22 k22
  have Fu23 := fun_mk (st := s__law_words) l23 c23 k23
  have Fu24 := fun_mk (st := s__law_bulk) l24 c24 k24
  have Fu25 := fun_mk (st := s__law_size) l25 c25 k25
  have Fu26 := fun_mk (st := s__law_far) l26 c26 k26
  have Fu27 := fun_mk (st := s__law_fitting) l27 c27 k27
  have Fu28 := fun_mk (st := s__law_job) l28 c28 k28
  have Fu29 := fun_mk (st := s__law_flat) l29 c29 k29
  have Fu30 := fun_mk (st := s__law_all_words) l30 c30 k30
  have Fu31 := fun_mk (st := s__law_most) l31 c31 k31
  have Fu32 := fun_mk (st := s_law) l32 c32 k32
  refine ⟨PySem.W.fnOf "law" "law" (defArgs s_law) (defBody s_law) (defScope s_law) .none kV32 dc32 pm32 an32 cd32 ct32, fun s v => .of_eq rfl, fun base _ _ => ?_⟩
  have G0 : FnG false l.prog w K mg base 1 f0 _ ["value"] (PK.S_is_integer z) := fng_of Fu0 sc_is_integer (PK.len_is_integer z) (PK.mo_is_integer z) (fun cdv A outer s H E c => d_is_integer T  cdv A outer s H E c) (PK.p_is_integer z)
  have C_is_integer : Cal false l.prog w K mg base "is_integer" 1 1 [] (fun ds _ => ds) (PK.S_is_integer z) := ⟨⟨f0, _, _, PySem.W.mg_of X G a0, k0, G0, (Bnd.plain fun us hl => match us, hl with | [_], _ => rfl)⟩⟩
  have G3 : FnG false l.prog w K mg base 1 f3 _ ["action"] (PK.S_inner_of z) := fng_of Fu3 sc_inner_of (PK.len_inner_of z) (PK.mo_inner_of z) (fun cdv A outer s H E c => d_inner_of T  cdv A outer s H E c) (PK.p_inner_of z)
  have C_inner_of : Cal false l.prog w K mg base "inner_of" 1 1 [] (fun ds _ => ds) (PK.S_inner_of z) := ⟨⟨f3, _, _, PySem.W.mg_of X G a3, k3, G3, (Bnd.plain fun us hl => match us, hl with | [_], _ => rfl)⟩⟩
  have G4 : FnG false l.prog w K mg base 1 f4 _ ["action"] (PK.S_bytes_of z) := fng_of Fu4 sc_bytes_of (PK.len_bytes_of z) (PK.mo_bytes_of z) (fun cdv A outer s H E c => d_bytes_of T  cdv A outer s H E c) (PK.p_bytes_of z)
  have C_bytes_of : Cal false l.prog w K mg base "bytes_of" 1 1 [] (fun ds _ => ds) (PK.S_bytes_of z) := ⟨⟨f4, _, _, PySem.W.mg_of X G a4, k4, G4, (Bnd.plain fun us hl => match us, hl with | [_], _ => rfl)⟩⟩
  have G15 : FnG false l.prog w K mg base 1 f15 _ ["self"] (PK.S_Program_body z) := fng_of Fu15 sc_Program_body (PK.len_Program_body z) (PK.mo_Program_body z) (fun cdv A outer s H E c => d_Program_body T  cdv A outer s H E c) (PK.p_Program_body z)
  have R_LineProgram_body : PrpC l.prog w K mg base z.LineProgram "body" 1 (PK.S_Program_body z) := ⟨T.k_LineProgram, p15, f15, _, _, ⟨a15_LineProgram, pa15, pb15, ⟨_, pc15⟩⟩, G15, Fu15.binds (ps := ["self"]) fun _ _ _ _ _ _ us hl => match us, hl with | [_], _ => rfl⟩
  have R_Program_body : PrpC l.prog w K mg base z.Program "body" 1 (PK.S_Program_body z) := ⟨T.k_Program, p15, f15, _, _, ⟨a15_Program, pa15, pb15, ⟨_, pc15⟩⟩, G15, Fu15.binds (ps := ["self"]) fun _ _ _ _ _ _ us hl => match us, hl with | [_], _ => rfl⟩
  have G20 : FnG false l.prog w K mg base 1 f20 _ ["_law_script"] (F1.S__law_pen z) := fng_of Fu20 sc__law_pen (F1.len__law_pen z) (F1.mo__law_pen z) (fun cdv A outer s H E c => d__law_pen T  cdv A outer s H E c) (F1.p__law_pen z)
  have C__law_pen : Cal false l.prog w K mg base "_law_pen" 1 1 [] (fun ds _ => ds) (F1.S__law_pen z) := ⟨⟨f20, _, _, PySem.W.mg_of X G a20, k20, G20, (Bnd.plain fun us hl => match us, hl with | [_], _ => rfl)⟩⟩
  have G21 : FnG false l.prog w K mg base 1 f21 _ ["_law_pen_here", "_law_bound"] (F1.S__law_draw z) := fng_of Fu21 sc__law_draw (F1.len__law_draw z) (F1.mo__law_draw z) (fun cdv A outer s H E c => d__law_draw T  cdv A outer s H E c) (F1.p__law_draw z)
  have C__law_draw : Cal false l.prog w K mg base "_law_draw" 1 2 [] (fun ds _ => ds) (F1.S__law_draw z) := ⟨⟨f21, _, _, PySem.W.mg_of X G a21, k21, G21, (Bnd.plain fun us hl => match us, hl with | [_, _], _ => rfl)⟩⟩
  have G24 : FnG false l.prog w K mg base 1 f24 _ ["_law_act"] (F1.S__law_bulk z) := fng_of Fu24 sc__law_bulk (F1.len__law_bulk z) (F1.mo__law_bulk z) (fun cdv A outer s H E c => d__law_bulk T  cdv A outer s H E c) (F1.p__law_bulk z)
  have C__law_bulk : Cal false l.prog w K mg base "_law_bulk" 1 1 [] (fun ds _ => ds) (F1.S__law_bulk z) := ⟨⟨f24, _, _, PySem.W.mg_of X G a24, k24, G24, (Bnd.plain fun us hl => match us, hl with | [_], _ => rfl)⟩⟩
  have G1 : FnG false l.prog w K mg base 2 f1 _ ["value", "least", "most"] (PK.S_is_between z) := fng_of Fu1 sc_is_between (PK.len_is_between z) (PK.mo_is_between z) (fun cdv A outer s H E c => d_is_between T C_is_integer cdv A outer s H E c) (PK.p_is_between z)
  have C_is_between : Cal false l.prog w K mg base "is_between" 2 3 [] (fun ds _ => ds) (PK.S_is_between z) := ⟨⟨f1, _, _, PySem.W.mg_of X G a1, k1, G1, (Bnd.plain fun us hl => match us, hl with | [_, _, _], _ => rfl)⟩⟩
  have G23 : FnG false l.prog w K mg base 2 f23 _ ["_law_pen_here"] (F1.S__law_words z) := fng_of Fu23 sc__law_words (F1.len__law_words z) (F1.mo__law_words z) (fun cdv A outer s H E c => d__law_words T C__law_draw cdv A outer s H E c) (F1.p__law_words z)
  have C__law_words : Cal false l.prog w K mg base "_law_words" 2 1 [] (fun ds _ => ds) (F1.S__law_words z) := ⟨⟨f23, _, _, PySem.W.mg_of X G a23, k23, G23, (Bnd.plain fun us hl => match us, hl with | [_], _ => rfl)⟩⟩
  have G2 : FnG false l.prog w K mg base 3 f2 _ ["value"] (PK.S_is_head z) := fng_of Fu2 sc_is_head (PK.len_is_head z) (PK.mo_is_head z) (fun cdv A outer s H E c => d_is_head T C_is_between cdv A outer s H E c) (PK.p_is_head z)
  have C_is_head : Cal false l.prog w K mg base "is_head" 3 1 [] (fun ds _ => ds) (PK.S_is_head z) := ⟨⟨f2, _, _, PySem.W.mg_of X G a2, k2, G2, (Bnd.plain fun us hl => match us, hl with | [_], _ => rfl)⟩⟩
  have GR5 := grp_5 (P := l.prog) (w := w) (base := base) T Fu11 (PySem.W.mg_of X G a11) k11 (Bnd.plain fun us hl => match us, hl with | [_], _ => rfl)
  have G11 := (GR5 16)
  have C_unrolled_in : Cal false l.prog w K mg base "unrolled_in" 16 1 [] (fun ds _ => ds) (PK.S_unrolled_in z 16) := ⟨⟨f11, _, _, PySem.W.mg_of X G a11, k11, G11, (Bnd.plain fun us hl => match us, hl with | [_], _ => rfl)⟩⟩
  have GR8 := grp_8 (P := l.prog) (w := w) (base := base) T Fu25 (PySem.W.mg_of X G a25) k25 (Bnd.plain fun us hl => match us, hl with | [_], _ => rfl)
  have G25 := (GR8 16)
  have C__law_size : Cal false l.prog w K mg base "_law_size" 16 1 [] (fun ds _ => ds) (F1.S__law_size z 16) := ⟨⟨f25, _, _, PySem.W.mg_of X G a25, k25, G25, (Bnd.plain fun us hl => match us, hl with | [_], _ => rfl)⟩⟩
  have GR10 := grp_10 (P := l.prog) (w := w) (base := base) T Fu29 (PySem.W.mg_of X G a29) k29 (Bnd.plain fun us hl => match us, hl with | [_], _ => rfl)
  have G29 := (GR10 16)
  have C__law_flat : Cal false l.prog w K mg base "_law_flat" 16 1 [] (fun ds _ => ds) (F1.S__law_flat z 16) := ⟨⟨f29, _, _, PySem.W.mg_of X G a29, k29, G29, (Bnd.plain fun us hl => match us, hl with | [_], _ => rfl)⟩⟩
  have GR11 := grp_11 (P := l.prog) (w := w) (base := base) T Fu30 (PySem.W.mg_of X G a30) k30 (Bnd.plain fun us hl => match us, hl with | [_], _ => rfl)
  have G30 := (GR11 16)
  have C__law_all_words : Cal false l.prog w K mg base "_law_all_words" 16 1 [] (fun ds _ => ds) (F1.S__law_all_words z 16) := ⟨⟨f30, _, _, PySem.W.mg_of X G a30, k30, G30, (Bnd.plain fun us hl => match us, hl with | [_], _ => rfl)⟩⟩
  have GR0 := grp_0 (P := l.prog) (w := w) (base := base) T C_inner_of Fu5 (PySem.W.mg_of X G a5) k5 (Bnd.plain fun us hl => match us, hl with | [_, _], _ => rfl)
  have G5 := (GR0 16)
  have C_walked : Cal false l.prog w K mg base "walked" 17 2 [] (fun ds _ => ds) (PK.S_walked z 16) := ⟨⟨f5, _, _, PySem.W.mg_of X G a5, k5, G5, (Bnd.plain fun us hl => match us, hl with | [_, _], _ => rfl)⟩⟩
  have GR2 := grp_2 (P := l.prog) (w := w) (base := base) T C_inner_of Fu8 (PySem.W.mg_of X G a8) k8 (Bnd.plain fun us hl => match us, hl with | [_], _ => rfl)
  have G8 := (GR2 16)
  have C_size_in : Cal false l.prog w K mg base "size_in" 17 1 [] (fun ds _ => ds) (PK.S_size_in z 16) := ⟨⟨f8, _, _, PySem.W.mg_of X G a8, k8, G8, (Bnd.plain fun us hl => match us, hl with | [_], _ => rfl)⟩⟩
  have GR3 := grp_3 (P := l.prog) (w := w) (base := base) T C_bytes_of Fu9 (PySem.W.mg_of X G a9) k9 (Bnd.plain fun us hl => match us, hl with | [_], _ => rfl)
  have G9 := (GR3 16)
  have C_bytes_in : Cal false l.prog w K mg base "bytes_in" 17 1 [] (fun ds _ => ds) (PK.S_bytes_in z 16) := ⟨⟨f9, _, _, PySem.W.mg_of X G a9, k9, G9, (Bnd.plain fun us hl => match us, hl with | [_], _ => rfl)⟩⟩
  have G18 : FnG false l.prog w K mg base 17 f18 _ ["self"] (PK.S_Program_unrolled z) := fng_of Fu18 sc_Program_unrolled (PK.len_Program_unrolled z) (PK.mo_Program_unrolled z) (fun cdv A outer s H E c => d_Program_unrolled T C_unrolled_in cdv A outer s H E c) (PK.p_Program_unrolled z)
  have R_LineProgram_unrolled : PrpC l.prog w K mg base z.LineProgram "unrolled" 17 (PK.S_Program_unrolled z) := ⟨T.k_LineProgram, p18, f18, _, _, ⟨a18_LineProgram, pa18, pb18, ⟨_, pc18⟩⟩, G18, Fu18.binds (ps := ["self"]) fun _ _ _ _ _ _ us hl => match us, hl with | [_], _ => rfl⟩
  have R_Program_unrolled : PrpC l.prog w K mg base z.Program "unrolled" 17 (PK.S_Program_unrolled z) := ⟨T.k_Program, p18, f18, _, _, ⟨a18_Program, pa18, pb18, ⟨_, pc18⟩⟩, G18, Fu18.binds (ps := ["self"]) fun _ _ _ _ _ _ us hl => match us, hl with | [_], _ => rfl⟩
  have GR7 := grp_7 (P := l.prog) (w := w) (base := base) T C__law_draw Fu22 (PySem.W.mg_of X G a22) k22 (Bnd.plain fun us hl => match us, hl with | [_, _, _, _], _ => rfl)
  have G22 := (GR7 16)
  have C__law_deeds : Cal false l.prog w K mg base "_law_deeds" 17 4 [] (fun ds _ => ds) (F1.S__law_deeds z 16) := ⟨⟨f22, _, _, PySem.W.mg_of X G a22, k22, G22, (Bnd.plain fun us hl => match us, hl with | [_, _, _, _], _ => rfl)⟩⟩
  have GR9 := grp_9 (P := l.prog) (w := w) (base := base) T C__law_bulk Fu26 (PySem.W.mg_of X G a26) k26 (Bnd.plain fun us hl => match us, hl with | [_], _ => rfl)
  have G26 := (GR9 16)
  have C__law_far : Cal false l.prog w K mg base "_law_far" 17 1 [] (fun ds _ => ds) (F1.S__law_far z 16) := ⟨⟨f26, _, _, PySem.W.mg_of X G a26, k26, G26, (Bnd.plain fun us hl => match us, hl with | [_], _ => rfl)⟩⟩
  have GR12 := grp_12 (P := l.prog) (w := w) (base := base) T C__law_bulk Fu31 (PySem.W.mg_of X G a31) k31 (Bnd.plain fun us hl => match us, hl with | [_, _], _ => rfl)
  have G31 := (GR12 16)
  have C__law_most : Cal false l.prog w K mg base "_law_most" 17 2 [] (fun ds _ => ds) (S__law_most z 16) := ⟨⟨f31, _, _, PySem.W.mg_of X G a31, k31, G31, (Bnd.plain fun us hl => match us, hl with | [_, _], _ => rfl)⟩⟩
  have G12 : FnG false l.prog w K mg base 18 f12 _ ["body"] (PK.S_words_in z) := fng_of Fu12 sc_words_in (PK.len_words_in z) (PK.mo_words_in z) (fun cdv A outer s H E c => d_words_in T C_walked cdv A outer s H E c) (PK.p_words_in z)
  have C_words_in : Cal false l.prog w K mg base "words_in" 18 1 [] (fun ds _ => ds) (PK.S_words_in z) := ⟨⟨f12, _, _, PySem.W.mg_of X G a12, k12, G12, (Bnd.plain fun us hl => match us, hl with | [_], _ => rfl)⟩⟩
  have G16 : FnG false l.prog w K mg base 18 f16 _ ["self"] (PK.S_Program_size z) := fng_of Fu16 sc_Program_size (PK.len_Program_size z) (PK.mo_Program_size z) (fun cdv A outer s H E c => d_Program_size T C_size_in cdv A outer s H E c) (PK.p_Program_size z)
  have R_LineProgram_size : PrpC l.prog w K mg base z.LineProgram "size" 18 (PK.S_Program_size z) := ⟨T.k_LineProgram, p16, f16, _, _, ⟨a16_LineProgram, pa16, pb16, ⟨_, pc16⟩⟩, G16, Fu16.binds (ps := ["self"]) fun _ _ _ _ _ _ us hl => match us, hl with | [_], _ => rfl⟩
  have R_Program_size : PrpC l.prog w K mg base z.Program "size" 18 (PK.S_Program_size z) := ⟨T.k_Program, p16, f16, _, _, ⟨a16_Program, pa16, pb16, ⟨_, pc16⟩⟩, G16, Fu16.binds (ps := ["self"]) fun _ _ _ _ _ _ us hl => match us, hl with | [_], _ => rfl⟩
  have G27 : FnG false l.prog w K mg base 18 f27 _ ["_law_deeds_here", "_law_points", "_law_reach"] (F1.S__law_fitting z) := fng_of Fu27 sc__law_fitting (F1.len__law_fitting z) (F1.mo__law_fitting z) (fun cdv A outer s H E c => d__law_fitting T C__law_far C__law_size cdv A outer s H E c) (F1.p__law_fitting z)
  have C__law_fitting : Cal false l.prog w K mg base "_law_fitting" 18 3 [] (fun ds _ => ds) (F1.S__law_fitting z) := ⟨⟨f27, _, _, PySem.W.mg_of X G a27, k27, G27, (Bnd.plain fun us hl => match us, hl with | [_, _, _], _ => rfl)⟩⟩
  have GR1 := grp_1 (P := l.prog) (w := w) (base := base) T C_inner_of C_is_head Fu6 (PySem.W.mg_of X G a6) k6 (Bnd.plain fun us hl => match us, hl with | [_, _, _], _ => rfl)
  have G6 := (GR1 16)
  have C_wrong_in : Cal false l.prog w K mg base "wrong_in" 19 3 [] (fun ds _ => ds) (PK.S_wrong_in z 16) := ⟨⟨f6, _, _, PySem.W.mg_of X G a6, k6, G6, (Bnd.plain fun us hl => match us, hl with | [_, _, _], _ => rfl)⟩⟩
  have G19 : FnG false l.prog w K mg base 19 f19 _ ["self"] (PK.S_Program_words z) := fng_of Fu19 sc_Program_words (PK.len_Program_words z) (PK.mo_Program_words z) (fun cdv A outer s H E c => d_Program_words T C_unrolled_in C_words_in cdv A outer s H E c) (PK.p_Program_words z)
  have R_LineProgram_words : PrpC l.prog w K mg base z.LineProgram "words" 19 (PK.S_Program_words z) := ⟨T.k_LineProgram, p19, f19, _, _, ⟨a19_LineProgram, pa19, pb19, ⟨_, pc19⟩⟩, G19, Fu19.binds (ps := ["self"]) fun _ _ _ _ _ _ us hl => match us, hl with | [_], _ => rfl⟩
  have R_Program_words : PrpC l.prog w K mg base z.Program "words" 19 (PK.S_Program_words z) := ⟨T.k_Program, p19, f19, _, _, ⟨a19_Program, pa19, pb19, ⟨_, pc19⟩⟩, G19, Fu19.binds (ps := ["self"]) fun _ _ _ _ _ _ us hl => match us, hl with | [_], _ => rfl⟩
  have G28 : FnG false l.prog w K mg base 19 f28 _ ["_law_pen_here"] (F1.S__law_job z) := fng_of Fu28 sc__law_job (F1.len__law_job z) (F1.mo__law_job z) (fun cdv A outer s H E c => d__law_job T C__law_deeds C__law_fitting C__law_words cdv A outer s H E c) (F1.p__law_job z)
  have C__law_job : Cal false l.prog w K mg base "_law_job" 19 1 [] (fun ds _ => ds) (F1.S__law_job z) := ⟨⟨f28, _, _, PySem.W.mg_of X G a28, k28, G28, (Bnd.plain fun us hl => match us, hl with | [_], _ => rfl)⟩⟩
  have G7 : FnG false l.prog w K mg base 20 f7 _ ["body"] (PK.S_first_wrong z) := fng_of Fu7 sc_first_wrong (PK.len_first_wrong z) (PK.mo_first_wrong z) (fun cdv A outer s H E c => d_first_wrong T C_wrong_in cdv A outer s H E c) (PK.p_first_wrong z)
  have C_first_wrong : Cal false l.prog w K mg base "first_wrong" 20 1 [] (fun ds _ => ds) (PK.S_first_wrong z) := ⟨⟨f7, _, _, PySem.W.mg_of X G a7, k7, G7, (Bnd.plain fun us hl => match us, hl with | [_], _ => rfl)⟩⟩
  have GR4 := grp_4 (P := l.prog) (w := w) (base := base) T C_bytes_in C_bytes_of Fu10 (PySem.W.mg_of X G a10) k10 (Bnd.plain fun us hl => match us, hl with | [_], _ => rfl)
  have G10 := (GR4 16)
  have C_reach_in : Cal false l.prog w K mg base "reach_in" 33 1 [] (fun ds _ => ds) (PK.S_reach_in z 16) := ⟨⟨f10, _, _, PySem.W.mg_of X G a10, k10, G10, (Bnd.plain fun us hl => match us, hl with | [_], _ => rfl)⟩⟩
  have G13 : FnRD l.prog w K mg base 34 f13 (starS 1 (PK.S_Program___init__ z)) := frd_star (ps := ["self"]) (pv := "actions") Fu13 sc_Program___init__ (PK.len_Program___init__ z) (PK.mo_Program___init__ z) (fun kV doc pm an cdv ct us rest hl => match us, rest, hl with | [_], [], _ => rfl | [_], _ :: _, _ => rfl) (fun cdv A outer s H E c => d_Program___init__ T C_first_wrong C_reach_in C_size_in cdv A outer s H E c) (PK.p_Program___init__ z)
  have M_LineProgram : MakC l.prog w K mg base "LineProgram" z.LineProgram 34 (starS 1 (PK.S_Program___init__ z)) := ⟨⟨f13, ⟨mk0, a13_LineProgram, i13, kc0⟩, G13⟩, starS_mo (PK.mo_Program___init__ z), PySem.W.mg_of X G aC0⟩
  have M_Program : MakC l.prog w K mg base "Program" z.Program 34 (starS 1 (PK.S_Program___init__ z)) := ⟨⟨f13, ⟨mk1, a13_Program, i13, kc1⟩, G13⟩, starS_mo (PK.mo_Program___init__ z), PySem.W.mg_of X G aC1⟩
  have G17 : FnG false l.prog w K mg base 34 f17 _ ["self"] (PK.S_Program_reach z) := fng_of Fu17 sc_Program_reach (PK.len_Program_reach z) (PK.mo_Program_reach z) (fun cdv A outer s H E c => d_Program_reach T C_reach_in cdv A outer s H E c) (PK.p_Program_reach z)
  have R_LineProgram_reach : PrpC l.prog w K mg base z.LineProgram "reach" 34 (PK.S_Program_reach z) := ⟨T.k_LineProgram, p17, f17, _, _, ⟨a17_LineProgram, pa17, pb17, ⟨_, pc17⟩⟩, G17, Fu17.binds (ps := ["self"]) fun _ _ _ _ _ _ us hl => match us, hl with | [_], _ => rfl⟩
  have R_Program_reach : PrpC l.prog w K mg base z.Program "reach" 34 (PK.S_Program_reach z) := ⟨T.k_Program, p17, f17, _, _, ⟨a17_Program, pa17, pb17, ⟨_, pc17⟩⟩, G17, Fu17.binds (ps := ["self"]) fun _ _ _ _ _ _ us hl => match us, hl with | [_], _ => rfl⟩
  have G14 : FnG false l.prog w K mg base 36 f14 _ ["cls", "body"] (PK.S_Program_of z) := fng_of Fu14 sc_Program_of (PK.len_Program_of z) (PK.mo_Program_of z) (fun cdv A outer s H E c => d_Program_of T M_LineProgram M_Program cdv A outer s H E c) (PK.p_Program_of z)
  have R_LineProgram_of : CMetC l.prog w K mg base z.LineProgram "of" 36 (PK.S_Program_of z) := ⟨⟨.type "type", p14, f14, ⟨rd14_LineProgram, ga14_LineProgram⟩, ⟨a14_LineProgram, ⟨_, pc14⟩, j14⟩, frd_plain G14 (Bnd.plain fun us hl => match us, hl with | [_, _], _ => rfl)⟩, (PK.mo_Program_of z)⟩
  have R_Program_of : CMetC l.prog w K mg base z.Program "of" 36 (PK.S_Program_of z) := ⟨⟨.type "type", p14, f14, ⟨rd14_Program, ga14_Program⟩, ⟨a14_Program, ⟨_, pc14⟩, j14⟩, frd_plain G14 (Bnd.plain fun us hl => match us, hl with | [_, _], _ => rfl)⟩, (PK.mo_Program_of z)⟩
  have G32 : FnG true l.prog w K mg base 37 fa _ ["_law_script"] S_law := fng_of Fu32 sc_law len_law mo_law (fun cdv A outer s H E c => d_law T C__law_all_words C__law_far C__law_flat C__law_job C__law_most C__law_pen C__law_size R_LineProgram_of R_Program_of M_Program R_LineProgram_body R_LineProgram_reach R_LineProgram_size R_LineProgram_unrolled R_LineProgram_words R_Program_body R_Program_reach R_Program_size R_Program_unrolled R_Program_words cdv A outer s H E c) (p_law z)
  exact G32
end K06
open PySem PySem.W PyProof.Rows
set_option maxRecDepth 100000 in
set_option maxHeartbeats 0 in
theorem PySem.Challenge.cw_forkecho_k06_bodies_unrolled_holds : PySem.Challenge.rw_forkecho_k06_bodies_unrolled.Holds := by
  w_on; o_law; k_head; (case hw => w_witness2)
  k_fill
  refine DL.dl_walk (gz := true) (l := PySem.Challenge.rw_forkecho_k06_bodies_unrolled) (n := 63) (k := 37) (x := "_law_script") (S := K06.S_law) rfl (by decide) rfl ⟨rfl, by decide, by decide⟩ (fun w h Y => PySem.W.kIn_of Y) ?F ?S
  case S => exact K06.law_at
  case F =>
    intro w mg fa h KX G hmg
    refine' K06.all_mk KX G hmg ?yaC0 ?ypg0 ?yhd0 ?ypo0 ?ysa0 ?ymk0 ?ykc0 ?ysf0 ?ynf0 ?yaC1 ?ypg1 ?yhd1 ?ypo1 ?ysa1 ?ymk1 ?ykc1 ?ysf1 ?ynf1 ?ya0 ?yl0 ?yc0 ?yk0 ?ya1 ?yl1 ?yc1 ?yk1 ?ya2 ?yl2 ?yc2 ?yk2 ?ya3 ?yl3 ?yc3 ?yk3 ?ya4 ?yl4 ?yc4 ?yk4 ?ya5 ?yl5 ?yc5 ?yk5 ?ya6 ?yl6 ?yc6 ?yk6 ?ya7 ?yl7 ?yc7 ?yk7 ?ya8 ?yl8 ?yc8 ?yk8 ?ya9 ?yl9 ?yc9 ?yk9 ?ya10 ?yl10 ?yc10 ?yk10 ?ya11 ?yl11 ?yc11 ?yk11 ?ya12 ?yl12 ?yc12 ?yk12 ?ya13_LineProgram ?ya13_Program ?yi13 ?yj13 ?yl13 ?yc13 ?yk13 ?yrd14_LineProgram ?yga14_LineProgram ?ya14_LineProgram ?yrd14_Program ?yga14_Program ?ya14_Program ?ypc14 ?yj14 ?yl14 ?yc14 ?yk14 ?ya15_LineProgram ?ya15_Program ?ypa15 ?ypb15 ?ypc15 ?yl15 ?yc15 ?yk15 ?ya16_LineProgram ?ya16_Program ?ypa16 ?ypb16 ?ypc16 ?yl16 ?yc16 ?yk16 ?ya17_LineProgram ?ya17_Program ?ypa17 ?ypb17 ?ypc17 ?yl17 ?yc17 ?yk17 ?ya18_LineProgram ?ya18_Program ?ypa18 ?ypb18 ?ypc18 ?yl18 ?yc18 ?yk18 ?ya19_LineProgram ?ya19_Program ?ypa19 ?ypb19 ?ypc19 ?yl19 ?yc19 ?yk19 ?ya20 ?yl20 ?yc20 ?yk20 ?ya21 ?yl21 ?yc21 ?yk21 ?ya22 ?yl22 ?yc22 ?yk22 ?ya23 ?yl23 ?yc23 ?yk23 ?ya24 ?yl24 ?yc24 ?yk24 ?ya25 ?yl25 ?yc25 ?yk25 ?ya26 ?yl26 ?yc26 ?yk26 ?ya27 ?yl27 ?yc27 ?yk27 ?ya28 ?yl28 ?yc28 ?yk28 ?ya29 ?yl29 ?yc29 ?yk29 ?ya30 ?yl30 ?yc30 ?yk30 ?ya31 ?yl31 ?yc31 ?yk31 ?ya32 ?yl32 ?yc32 ?yk32 ?yz0 ?yz1 ?yz2 ?yz3 ?yz4 ?yz5 ?yz6 ?yz7 ?yz8 ?yz9 ?yz10 ?yz11 ?yg0 ?ygt0 ?ygz0 ?ygs0 ?yg1 ?yg2 ?yg3 ?yg4 ?yg5 ?yg6 ?yg7 ?yg8 ?yg9 ?yg10
    (case yaC0 => k_is)
    (case ypg0 => k_is)
    (case yhd0 => k_is)
    (case ypo0 => k_is)
    (case ysa0 => k_is)
    (case ymk0 => k_is)
    (case ykc0 => k_is)
    (case ysf0 => k_is)
    (case ynf0 => k_is)
    (case yaC1 => k_is)
    (case ypg1 => k_is)
    (case yhd1 => k_is)
    (case ypo1 => k_is)
    (case ysa1 => k_is)
    (case ymk1 => k_is)
    (case ykc1 => k_is)
    (case ysf1 => k_is)
    (case ynf1 => k_is)
    (case ya0 => k_is)
    (case yl0 => k_is)
    (case yc0 => k_is)
    (case yk0 => k_is)
    (case ya1 => k_is)
    (case yl1 => k_is)
    (case yc1 => k_is)
    (case yk1 => k_is)
    (case ya2 => k_is)
    (case yl2 => k_is)
    (case yc2 => k_is)
    (case yk2 => k_is)
    (case ya3 => k_is)
    (case yl3 => k_is)
    (case yc3 => k_is)
    (case yk3 => k_is)
    (case ya4 => k_is)
    (case yl4 => k_is)
    (case yc4 => k_is)
    (case yk4 => k_is)
    (case ya5 => k_is)
    (case yl5 => k_is)
    (case yc5 => k_is)
    (case yk5 => k_is)
    (case ya6 => k_is)
    (case yl6 => k_is)
    (case yc6 => k_is)
    (case yk6 => k_is)
    (case ya7 => k_is)
    (case yl7 => k_is)
    (case yc7 => k_is)
    (case yk7 => k_is)
    (case ya8 => k_is)
    (case yl8 => k_is)
    (case yc8 => k_is)
    (case yk8 => k_is)
    (case ya9 => k_is)
    (case yl9 => k_is)
    (case yc9 => k_is)
    (case yk9 => k_is)
    (case ya10 => k_is)
    (case yl10 => k_is)
    (case yc10 => k_is)
    (case yk10 => k_is)
    (case ya11 => k_is)
    (case yl11 => k_is)
    (case yc11 => k_is)
    (case yk11 => k_is)
    (case ya12 => k_is)
    (case yl12 => k_is)
    (case yc12 => k_is)
    (case yk12 => k_is)
    (case ya13_LineProgram => k_is)
    (case ya13_Program => k_is)
    (case yi13 => k_is)
    (case yj13 => k_is)
    (case yl13 => k_is)
    (case yc13 => k_is)
    (case yk13 => k_is)
    (case yrd14_LineProgram => k_is)
    (case yga14_LineProgram => k_is)
    (case ya14_LineProgram => k_is)
    (case yrd14_Program => k_is)
    (case yga14_Program => k_is)
    (case ya14_Program => k_is)
    (case ypc14 => k_is)
    (case yj14 => k_is)
    (case yl14 => k_is)
    (case yc14 => k_is)
    (case yk14 => k_is)
    (case ya15_LineProgram => k_is)
    (case ya15_Program => k_is)
    (case ypa15 => k_is)
    (case ypb15 => k_is)
    (case ypc15 => k_is)
    (case yl15 => k_is)
    (case yc15 => k_is)
    (case yk15 => k_is)
    (case ya16_LineProgram => k_is)
    (case ya16_Program => k_is)
    (case ypa16 => k_is)
    (case ypb16 => k_is)
    (case ypc16 => k_is)
    (case yl16 => k_is)
    (case yc16 => k_is)
    (case yk16 => k_is)
    (case ya17_LineProgram => k_is)
    (case ya17_Program => k_is)
    (case ypa17 => k_is)
    (case ypb17 => k_is)
    (case ypc17 => k_is)
    (case yl17 => k_is)
    (case yc17 => k_is)
    (case yk17 => k_is)
    (case ya18_LineProgram => k_is)
    (case ya18_Program => k_is)
    (case ypa18 => k_is)
    (case ypb18 => k_is)
    (case ypc18 => k_is)
    (case yl18 => k_is)
    (case yc18 => k_is)
    (case yk18 => k_is)
    (case ya19_LineProgram => k_is)
    (case ya19_Program => k_is)
    (case ypa19 => k_is)
    (case ypb19 => k_is)
    (case ypc19 => k_is)
    (case yl19 => k_is)
    (case yc19 => k_is)
    (case yk19 => k_is)
    (case ya20 => k_is)
    (case yl20 => k_is)
    (case yc20 => k_is)
    (case yk20 => k_is)
    (case ya21 => k_is)
    (case yl21 => k_is)
    (case yc21 => k_is)
    (case yk21 => k_is)
    (case ya22 => k_is)
    (case yl22 => k_is)
    (case yc22 => k_is)
    (case yk22 => k_is)
    (case ya23 => k_is)
    (case yl23 => k_is)
    (case yc23 => k_is)
    (case yk23 => k_is)
    (case ya24 => k_is)
    (case yl24 => k_is)
    (case yc24 => k_is)
    (case yk24 => k_is)
    (case ya25 => k_is)
    (case yl25 => k_is)
    (case yc25 => k_is)
    (case yk25 => k_is)
    (case ya26 => k_is)
    (case yl26 => k_is)
    (case yc26 => k_is)
    (case yk26 => k_is)
    (case ya27 => k_is)
    (case yl27 => k_is)
    (case yc27 => k_is)
    (case yk27 => k_is)
    (case ya28 => k_is)
    (case yl28 => k_is)
    (case yc28 => k_is)
    (case yk28 => k_is)
    (case ya29 => k_is)
    (case yl29 => k_is)
    (case yc29 => k_is)
    (case yk29 => k_is)
    (case ya30 => k_is)
    (case yl30 => k_is)
    (case yc30 => k_is)
    (case yk30 => k_is)
    (case ya31 => k_is)
    (case yl31 => k_is)
    (case yc31 => k_is)
    (case yk31 => k_is)
    (case ya32 => k_is)
    (case yl32 => k_is)
    (case yc32 => k_is)
    (case yk32 => k_is)
    (case yz0 => k_is)
    (case yz1 => k_is)
    (case yz2 => k_is)
    (case yz3 => k_is)
    (case yz4 => k_is)
    (case yz5 => k_is)
    (case yz6 => k_is)
    (case yz7 => k_is)
    (case yz8 => k_is)
    (case yz9 => k_is)
    (case yz10 => k_is)
    (case yz11 => k_is)
    (case yg0 => k_is)
    (case ygt0 => k_is)
    (case ygz0 => decide)
    (case ygs0 => rfl)
    (case yg1 => k_is)
    (case yg2 => k_is)
    (case yg3 => k_is)
    (case yg4 => k_is)
    (case yg5 => k_is)
    (case yg6 => k_is)
    (case yg7 => k_is)
    (case yg8 => k_is)
    (case yg9 => k_is)
    (case yg10 => k_is)
#print axioms PySem.Challenge.cw_forkecho_k06_bodies_unrolled_holds
