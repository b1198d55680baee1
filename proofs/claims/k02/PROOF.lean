import PyProof.Rows.All
import Wide.All
import OpenK.AllK
import Wide.FinOn
import PyProof.EqAt
import PyProof.EqKinds
import PyProof.TupleCall
import HandS.ForMost
import HandS.ForExc
import HandS.TupAny
import HandS.TupMul
import HandS.Wide
import HandS.IsInst
import HandS.SortInts
import HandS.DictComp
import HandS.Zip
import HandS.Style
import HandS.SortRule
import HandS.Conv
import HandS.Codes
import HandS.DictTup
import KE.GoesEnum
import KE.GoesMore
import HandS.Iter
import HandS.Ends
import HandS.More
import HandS.Defaults
import HandS.Star
import HandS.Property
import HandS.SlotsOwn
import KE.KOpsOwn
import HandS.Flow
import HandS.ListItems
import KE.KItemsList
import KE.KEqNest
import KE.KUnpackStar
import HandS.SortKw
import KE.DataMinMax
import PySem.Challenge.RW_forkecho_k02_actions_and_bodies
set_option Elab.async false
set_option linter.all false
set_option maxRecDepth 100000
set_option maxHeartbeats 4000000
namespace DL
open PySem PySem.Spec L2

/-! ### data: values as trees; what may be changed is a ref -/
inductive D where
  | non | bl (b : Bool) | int (i : Int) | str (s : Str) | ref (a : Addr) | ty (n : String)
  | tup (xs : List D) | tpl (xs : List D) | lst (xs : List D) | lk (xs : List D) | ob (C : Addr) (fs : List (Str × D)) | dK (kvs : List (Key × D)) | dT (kvs : List (List Key × D))
/-- an object that may change -/
inductive AO where
  | lst (xs : List D) | dK (kvs : List (Key × D)) | dT (kvs : List (List Key × D)) | ins (C : Addr) (fs : List (Str × D)) | lck (xs : List D)
abbrev AH := Addr → Option AO
def up (h : AH) (a : Addr) (o : AO) : AH := fun b => if b = a then some o else h b
@[simp] theorem up_same {h : AH} {a : Addr} {o : AO} : up h a o a = some o := by simp [up]
theorem up_ne {h : AH} {a b : Addr} {o : AO} (e : b ≠ a) : up h a o b = h b := by simp [up, e]
@[simp] theorem up_up {h : AH} {a : Addr} {o u : AO} : up (up h a o) a u = up h a u := by
  funext b; unfold up; split <;> rfl
/-- Sub g h: g is a part of h -/
def Sub (g h : AH) : Prop := ∀ a o, g a = some o → h a = some o
theorem Sub.refl (h : AH) : Sub h h := fun _ _ e => e
theorem Sub.trans {f g h : AH} (a : Sub f g) (b : Sub g h) : Sub f h := fun c o e => b c o (a c o e)
theorem sub_up {h : AH} {p : Addr} {o : AO} (e : h p = none) : Sub h (up h p o) := fun a u q => by
  rw [up_ne]; exact q
  rintro rfl; rw [e] at q; cases q

mutual
inductive Rep (K : PySem.W.Frag) (F : Hp) : D → V → Prop where
  | non : Rep K F .non .non
  | bl (b : Bool) : Rep K F (.bl b) (.bl b)
  | int (i : Int) : Rep K F (.int i) (.int i)
  | str (s : Str) : Rep K F (.str s) (.str s)
  | ref (a : Addr) : Rep K F (.ref a) (.ref a)
  | ty (n : String) : Rep K F (.ty n) (.ty n)
  | tup {a : Addr} {xs : List D} {vs : List V} (h : SqT K F a vs) (r : Reps K F xs vs) : Rep K F (.tup xs) (.ref a)
  | tpl {a : Addr} {ob : Obj} {xs : List D} {vs : List V} (h : F a = some (.frz ob (.tup vs))) (hd : ob.dict = none) (r : Reps K F xs vs) : Rep K F (.tpl xs) (.ref a)
  | lst {a : Addr} {xs : List D} {vs : List V} (h : F a = some (.lst vs)) (r : Reps K F xs vs) : Rep K F (.lst xs) (.ref a)
  | lk {a : Addr} {xs : List D} {vs : List V} (h : SqL K F a vs) (r : Reps K F xs vs) : Rep K F (.lk xs) (.ref a)
  | dK {a : Addr} {xs : List (Key × D)} {vs : List (Key × V)} (h : F a = some (.dK vs)) (r : RepK K F xs vs) : Rep K F (.dK xs) (.ref a)
  | dT {a : Addr} {xs : List (List Key × D)} {vs : List (List Key × V)} (h : F a = some (.dT vs)) (r : RepT K F xs vs) : Rep K F (.dT xs) (.ref a)
  | ob {a C : Addr} {dx : Addr} {xs : List (Str × D)} {vs : List (Str × V)} (h : F a = some (.ins C dx vs)) (r : RepF K F xs vs) : Rep K F (.ob C xs) (.ref a)
inductive Reps (K : PySem.W.Frag) (F : Hp) : List D → List V → Prop where
  | nil : Reps K F [] []
  | cons {x : D} {v : V} {xs : List D} {vs : List V} (h : Rep K F x v) (t : Reps K F xs vs) : Reps K F (x :: xs) (v :: vs)
inductive RepK (K : PySem.W.Frag) (F : Hp) : List (Key × D) → List (Key × V) → Prop where
  | nil : RepK K F [] []
  | cons {k : Key} {x : D} {v : V} {xs : List (Key × D)} {vs : List (Key × V)} (h : Rep K F x v) (t : RepK K F xs vs) : RepK K F ((k, x) :: xs) ((k, v) :: vs)
inductive RepT (K : PySem.W.Frag) (F : Hp) : List (List Key × D) → List (List Key × V) → Prop where
  | nil : RepT K F [] []
  | cons {k : List Key} {x : D} {v : V} {xs : List (List Key × D)} {vs : List (List Key × V)} (h : Rep K F x v) (t : RepT K F xs vs) : RepT K F ((k, x) :: xs) ((k, v) :: vs)
inductive RepF (K : PySem.W.Frag) (F : Hp) : List (Str × D) → List (Str × V) → Prop where
  | nil : RepF K F [] []
  | cons {k : Str} {x : D} {v : V} {xs : List (Str × D)} {vs : List (Str × V)} (h : Rep K F x v) (t : RepF K F xs vs) : RepF K F ((k, x) :: xs) ((k, v) :: vs)
end

def Ext (F F' : Hp) : Prop := ∀ a o, F a = some o → F' a = some o
theorem Ext.refl (F : Hp) : Ext F F := fun _ _ e => e
theorem Ext.trans {F G H : Hp} (a : Ext F G) (b : Ext G H) : Ext F H := fun c o e => b c o (a c o e)
theorem ext_upd {F : Hp} {p : Addr} {o : HO} (e : F p = none) : Ext F (upd F p o) := fun a u q => by
  rw [upd_ne]; exact q
  rintro rfl; rw [e] at q; cases q
theorem Ext.sqt {K : PySem.W.Frag} {F F' : Hp} {a : Addr} {vs : List V} (e : Ext F F') (h : SqT K F a vs) : SqT K F' a vs := by
  rcases h with (h | ⟨o, h⟩) | h
  · exact .inl (.inl (e _ _ h))
  · exact .inl (.inr ⟨o, e _ _ h⟩)
  · exact .inr h
theorem Ext.sql {K : PySem.W.Frag} {F F' : Hp} {a : Addr} {vs : List V} (e : Ext F F') (h : SqL K F a vs) : SqL K F' a vs := by
  rcases h with (h | ⟨o, h⟩) | h
  · exact .inl (.inl (e _ _ h))
  · exact .inl (.inr ⟨o, e _ _ h⟩)
  · exact .inr h
section
variable {K : PySem.W.Frag} {F F' : Hp}
mutual
theorem Rep.ext (e : Ext F F') : ∀ {x : D} {v : V}, Rep K F x v → Rep K F' x v
  | _, _, .non => .non
  | _, _, .bl b => .bl b
  | _, _, .int i => .int i
  | _, _, .str s => .str s
  | _, _, .ref a => .ref a
  | _, _, .ty n => .ty n
  | _, _, .tup h r => .tup (e.sqt h) (Reps.ext e r)
  | _, _, .tpl h hd r => .tpl (e _ _ h) hd (Reps.ext e r)
  | _, _, .lst h r => .lst (e _ _ h) (Reps.ext e r)
  | _, _, .lk h r => .lk (e.sql h) (Reps.ext e r)
  | _, _, .dK h r => .dK (e _ _ h) (RepK.ext e r)
  | _, _, .dT h r => .dT (e _ _ h) (RepT.ext e r)
  | _, _, .ob h r => .ob (e _ _ h) (RepF.ext e r)
theorem Reps.ext (e : Ext F F') : ∀ {xs : List D} {vs : List V}, Reps K F xs vs → Reps K F' xs vs
  | _, _, .nil => .nil
  | _, _, .cons h t => .cons (Rep.ext e h) (Reps.ext e t)
theorem RepK.ext (e : Ext F F') : ∀ {xs : List (Key × D)} {vs : List (Key × V)}, RepK K F xs vs → RepK K F' xs vs
  | _, _, .nil => .nil
  | _, _, .cons h t => .cons (Rep.ext e h) (RepK.ext e t)
theorem RepT.ext (e : Ext F F') : ∀ {xs : List (List Key × D)} {vs : List (List Key × V)}, RepT K F xs vs → RepT K F' xs vs
  | _, _, .nil => .nil
  | _, _, .cons h t => .cons (Rep.ext e h) (RepT.ext e t)
theorem RepF.ext (e : Ext F F') : ∀ {xs : List (Str × D)} {vs : List (Str × V)}, RepF K F xs vs → RepF K F' xs vs
  | _, _, .nil => .nil
  | _, _, .cons h t => .cons (Rep.ext e h) (RepF.ext e t)
end
theorem Reps.length : ∀ {xs : List D} {vs : List V}, Reps K F xs vs → xs.length = vs.length
  | _, _, .nil => rfl
  | _, _, .cons _ t => by simp [Reps.length t]
theorem Reps.append : ∀ {xs ys : List D} {vs ws : List V}, Reps K F xs vs → Reps K F ys ws → Reps K F (xs ++ ys) (vs ++ ws)
  | _, _, _, _, .nil, s => s
  | _, _, _, _, .cons h t, s => .cons h (Reps.append t s)
theorem Reps.get : ∀ {xs : List D} {vs : List V} {i : Nat} {x : D}, Reps K F xs vs → xs[i]? = some x → ∃ v, vs[i]? = some v ∧ Rep K F x v
  | _, _, _, _, .nil, e => by simp at e
  | _, _, 0, _, .cons h _, e => by simp at e; subst e; exact ⟨_, rfl, h⟩
  | _, _, i + 1, x, .cons _ t, e => by
    obtain ⟨v, h1, h2⟩ := Reps.get (i := i) (x := x) t (by simpa using e)
    exact ⟨v, by simpa using h1, h2⟩
theorem Reps.got : ∀ {xs : List D} {vs : List V} {i : Nat} {v : V}, Reps K F xs vs → vs[i]? = some v → ∃ x, xs[i]? = some x ∧ Rep K F x v
  | _, _, _, _, .nil, e => by simp at e
  | _, _, 0, _, .cons h _, e => by simp at e; subst e; exact ⟨_, rfl, h⟩
  | _, _, i + 1, v, .cons _ t, e => by
    obtain ⟨x, h1, h2⟩ := Reps.got (i := i) (v := v) t (by simpa using e)
    exact ⟨x, by simpa using h1, h2⟩
theorem Reps.set {x : D} {v : V} (r : Rep K F x v) : ∀ {xs : List D} {vs : List V} (i : Nat), Reps K F xs vs → Reps K F (xs.set i x) (vs.set i v)
  | _, _, _, .nil => .nil
  | _, _, 0, .cons _ t => .cons r t
  | _, _, i + 1, .cons q t => .cons q (Reps.set r i t)
theorem Reps.take : ∀ {xs : List D} {vs : List V} (n : Nat), Reps K F xs vs → Reps K F (xs.take n) (vs.take n)
  | _, _, 0, _ => .nil
  | _, _, _ + 1, .nil => .nil
  | _, _, n + 1, .cons r t => .cons r (Reps.take n t)
theorem Reps.drop : ∀ {xs : List D} {vs : List V} (n : Nat), Reps K F xs vs → Reps K F (xs.drop n) (vs.drop n)
  | _, _, 0, r => r
  | _, _, _ + 1, .nil => .nil
  | _, _, n + 1, .cons _ t => Reps.drop n t
end

def RepO (K : PySem.W.Frag) (F : Hp) : AO → HO → Prop
  | .lst xs, u => ∃ vs, u = .lst vs ∧ Reps K F xs vs
  | .dK kvs, u => ∃ vs, u = .dK vs ∧ RepK K F kvs vs
  | .dT kvs, u => ∃ vs, u = .dT vs ∧ RepT K F kvs vs
  | .ins C fs, u => ∃ dx vs, u = .ins C dx vs ∧ RepF K F fs vs
  | .lck xs, u => ∃ o vs, u = .frz o (.lst vs) ∧ Reps K F xs vs
theorem RepO.ext {K : PySem.W.Frag} {F F' : Hp} (e : Ext F F') : ∀ {o : AO} {u : HO}, RepO K F o u → RepO K F' o u
  | .lst _, _, ⟨vs, a, r⟩ => ⟨vs, a, r.ext e⟩
  | .dK _, _, ⟨vs, a, r⟩ => ⟨vs, a, r.ext e⟩
  | .dT _, _, ⟨vs, a, r⟩ => ⟨vs, a, r.ext e⟩
  | .ins _ _, _, ⟨dx, vs, a, r⟩ => ⟨dx, vs, a, r.ext e⟩
  | .lck _, _, ⟨o, vs, a, r⟩ => ⟨o, vs, a, r.ext e⟩
structure Sim (K : PySem.W.Frag) (F : Hp) (h : AH) (H : Hp) : Prop where
  fz : ∀ a o, F a = some o → H a = some o
  ob : ∀ a o, h a = some o → F a = none ∧ ∃ u, H a = some u ∧ RepO K F o u
section
variable {K : PySem.W.Frag} {F : Hp} {h g : AH} {H : Hp} {p : Addr}
theorem Sim.sub (S : Sim K F h H) (s : Sub g h) : Sim K F g H := ⟨S.fz, fun a o e => S.ob a o (s a o e)⟩
theorem Sim.free (S : Sim K F h H) (e : H p = none) : F p = none ∧ h p = none := by
  refine ⟨?_, ?_⟩
  · cases q : F p with
    | none => rfl
    | some o => rw [S.fz _ _ q] at e; cases e
  · cases q : h p with
    | none => rfl
    | some o => obtain ⟨_, u, e', _⟩ := S.ob _ _ q; rw [e'] at e; cases e
/-- a new object, never to change -/
theorem Sim.newF (S : Sim K F h H) (e : H p = none) (u : HO) : Sim K (upd F p u) h (upd H p u) := by
  obtain ⟨e1, e2⟩ := S.free e
  refine ⟨fun a o q => ?_, fun a o q => ?_⟩
  · by_cases c : a = p
    · subst c; rw [upd_same] at q ⊢; exact q
    · rw [upd_ne c] at q ⊢; exact S.fz _ _ q
  · have c : a ≠ p := by rintro rfl; rw [e2] at q; cases q
    obtain ⟨f, w, hw, r⟩ := S.ob _ _ q
    rw [upd_ne c, upd_ne c]
    exact ⟨f, w, hw, r.ext (ext_upd e1)⟩
/-- a new object that may change -/
theorem Sim.newM (S : Sim K F h H) (e : H p = none) {o : AO} {u : HO} (r : RepO K F o u) : Sim K F (up h p o) (upd H p u) := by
  obtain ⟨e1, e2⟩ := S.free e
  refine ⟨fun a v q => ?_, fun a v q => ?_⟩
  · have c : a ≠ p := by rintro rfl; rw [e1] at q; cases q
    rw [upd_ne c]; exact S.fz _ _ q
  · by_cases c : a = p
    · subst c; rw [up_same] at q; cases q; exact ⟨e1, u, upd_same, r⟩
    · rw [up_ne c] at q; rw [upd_ne c]; exact S.ob _ _ q
/-- an object changes -/
theorem Sim.put (S : Sim K F h H) {o0 : AO} (e : h p = some o0) {o : AO} {u : HO} (r : RepO K F o u) : Sim K F (up h p o) (upd H p u) := by
  obtain ⟨e1, _⟩ := S.ob _ _ e
  refine ⟨fun a v q => ?_, fun a v q => ?_⟩
  · have c : a ≠ p := by rintro rfl; rw [e1] at q; cases q
    rw [upd_ne c]; exact S.fz _ _ q
  · by_cases c : a = p
    · subst c; rw [up_same] at q; cases q; exact ⟨e1, u, upd_same, r⟩
    · rw [up_ne c] at q; rw [upd_ne c]; exact S.ob _ _ q
end

abbrev EnvD := List (Option D)
def EnvR (K : PySem.W.Frag) (F : Hp) (ρ : EnvD) (σ : St) : Prop := σ.length = ρ.length ∧ ∀ (i : Nat) d, ρ[i]? = some (some d) → ∃ v, σ[i]? = some (some v) ∧ Rep K F d v
theorem EnvR.ext {K : PySem.W.Frag} {F F' : Hp} (e : Ext F F') {ρ : EnvD} {σ : St} (r : EnvR K F ρ σ) : EnvR K F' ρ σ :=
  ⟨r.1, fun i d h => let ⟨v, a, b⟩ := r.2 i d h; ⟨v, a, b.ext e⟩⟩
theorem EnvR.set {K : PySem.W.Frag} {F : Hp} {ρ : EnvD} {σ : St} (r : EnvR K F ρ σ) {d : D} {v : V} (q : Rep K F d v) (i : Nat) : EnvR K F (ρ.set i (some d)) (σ.set i (some v)) := by
  refine ⟨by simp [r.1], fun j x e => ?_⟩
  by_cases c : i = j
  · subst c
    by_cases l : i < ρ.length
    · rw [List.getElem?_set_self l] at e; cases e
      exact ⟨v, List.getElem?_set_self (by rw [r.1]; exact l), q⟩
    · rw [List.getElem?_eq_none (by simpa using l)] at e; cases e
  · rw [List.getElem?_set_ne c] at e ⊢
    exact r.2 j x e

/-! ### exceptions -/
inductive DX where
  | own (C : Addr) (fs : List (Str × D)) | blt (n : String)
def RepX (K : PySem.W.Frag) (F H : Hp) : DX → Value → Option Addr → Prop
  | .own C fs, cls, d => cls = .ref C ∧ ((fs = [] ∧ d = none) ∨ ∃ dd vs, d = some dd ∧ H dd = some (.xd vs) ∧ RepF K F fs vs)
  | .blt n, cls, _ => cls = .type n

abbrev KD := D → AH → Prop
abbrev KX := DX → AH → Prop
abbrev WE := EnvD → AH → KD → KX → Prop
abbrev WT := EnvD → AH → (Bool → AH → Prop) → KX → Prop
abbrev WA := EnvD → AH → (List D → AH → Prop) → KX → Prop
structure EndsD where
  nx : EnvD → AH → Prop
  rt : KD
  bk : EnvD → AH → Prop := fun _ _ => False
  ct : EnvD → AH → Prop := fun _ _ => False
  ex : KX
abbrev WS := EndsD → EnvD → AH → Prop

/-! ### the lifts -/
def LQ (K : PySem.W.Frag) (F : Hp) (Q : VK) : KD := fun d h' => ∀ F' H' v, Ext F F' → Sim K F' h' H' → Rep K F' d v → Q v H'
def LB (K : PySem.W.Frag) (F : Hp) (Q : Bool → Hp → Prop) : Bool → AH → Prop := fun b h' => ∀ F' H', Ext F F' → Sim K F' h' H' → Q b H'
def LA (K : PySem.W.Frag) (F : Hp) (Q : List V → Hp → Prop) : List D → AH → Prop := fun ds h' => ∀ F' H' vs, Ext F F' → Sim K F' h' H' → Reps K F' ds vs → Q vs H'
def LS (K : PySem.W.Frag) (F : Hp) (Q : St → Hp → Prop) : EnvD → AH → Prop := fun ρ' h' => ∀ F' H' σ', Ext F F' → Sim K F' h' H' → EnvR K F' ρ' σ' → Q σ' H'
def LX (K : PySem.W.Frag) (F : Hp) (E : XK) : KX := fun x h' => ∀ F' H' cls d, Ext F F' → Sim K F' h' H' → RepX K F' H' x cls d → E cls d H'
def LD (K : PySem.W.Frag) (F : Hp) (D : Ends) (E : XK) : EndsD := { nx := LS K F D.nx, rt := LQ K F D.rt, bk := LS K F D.bk, ct := LS K F D.ct, ex := LX K F E }
section
variable {K : PySem.W.Frag} {F F' : Hp}
theorem LQ.ext (e : Ext F F') {Q : VK} {d : D} {h : AH} (q : LQ K F Q d h) : LQ K F' Q d h := fun G H v a b c => q G H v (e.trans a) b c
theorem LB.ext (e : Ext F F') {Q : Bool → Hp → Prop} {d : Bool} {h : AH} (q : LB K F Q d h) : LB K F' Q d h := fun G H a b => q G H (e.trans a) b
theorem LA.ext (e : Ext F F') {Q : List V → Hp → Prop} {d : List D} {h : AH} (q : LA K F Q d h) : LA K F' Q d h := fun G H v a b c => q G H v (e.trans a) b c
theorem LS.ext (e : Ext F F') {Q : St → Hp → Prop} {d : EnvD} {h : AH} (q : LS K F Q d h) : LS K F' Q d h := fun G H v a b c => q G H v (e.trans a) b c
theorem LX.ext (e : Ext F F') {E : XK} {d : DX} {h : AH} (q : LX K F E d h) : LX K F' E d h := fun G H v w a b c => q G H v w (e.trans a) b c
end
def tE (K : PySem.W.Frag) (E : XK) (w : WE) : TE := fun σ H Q => ∃ F ρ h, Sim K F h H ∧ EnvR K F ρ σ ∧ w ρ h (LQ K F Q) (LX K F E)
def tT (K : PySem.W.Frag) (E : XK) (w : WT) : TT := fun σ H Q => ∃ F ρ h, Sim K F h H ∧ EnvR K F ρ σ ∧ w ρ h (LB K F Q) (LX K F E)
def tA (K : PySem.W.Frag) (E : XK) (w : WA) : TA := fun σ H Q => ∃ F ρ h, Sim K F h H ∧ EnvR K F ρ σ ∧ w ρ h (LA K F Q) (LX K F E)
def tS (K : PySem.W.Frag) (E : XK) (w : WS) : TS := fun D σ H => ∃ F ρ h, Sim K F h H ∧ EnvR K F ρ σ ∧ w (LD K F D E) ρ h
structure EndsD.Le (D D' : EndsD) : Prop where
  nx : ∀ ρ h, D.nx ρ h → D'.nx ρ h
  rt : ∀ d h, D.rt d h → D'.rt d h
  bk : ∀ ρ h, D.bk ρ h → D'.bk ρ h
  ct : ∀ ρ h, D.ct ρ h → D'.ct ρ h
  ex : ∀ x h, D.ex x h → D'.ex x h
theorem LD.ext {K : PySem.W.Frag} {F F' : Hp} (e : Ext F F') {D : Ends} {E : XK} : (LD K F D E).Le (LD K F' D E) :=
  ⟨fun _ _ q => LS.ext e q, fun _ _ q => LQ.ext e q, fun _ _ q => LS.ext e q, fun _ _ q => LS.ext e q, fun _ _ q => LX.ext e q⟩
theorem EndsD.Le.refl (D : EndsD) : D.Le D := ⟨fun _ _ q => q, fun _ _ q => q, fun _ _ q => q, fun _ _ q => q, fun _ _ q => q⟩
/-- monotone -/
def MoE (w : WE) : Prop := ∀ ρ h Q Q' X X', (∀ d h, Q d h → Q' d h) → (∀ x h, X x h → X' x h) → w ρ h Q X → w ρ h Q' X'
def MoT (w : WT) : Prop := ∀ ρ h Q Q' X X', (∀ d h, Q d h → Q' d h) → (∀ x h, X x h → X' x h) → w ρ h Q X → w ρ h Q' X'
def MoA (w : WA) : Prop := ∀ ρ h Q Q' X X', (∀ d h, Q d h → Q' d h) → (∀ x h, X x h → X' x h) → w ρ h Q X → w ρ h Q' X'
def MoS (w : WS) : Prop := ∀ D D' ρ h, D.Le D' → w D ρ h → w D' ρ h

/-! ### the judgements -/
structure AE (X : Cx) (E : XK) (e : Expr) (w : WE) : Prop where
  run : PE X e (tE X.K E w)
  mo : MoE w
structure AT (X : Cx) (E : XK) (e : Expr) (w : WT) : Prop where
  run : PT X e (tT X.K E w)
  mo : MoT w
structure AW (X : Cx) (E : XK) (e : Expr) (w : WT) : Prop where
  run : PW X e (tT X.K E w)
  mo : MoT w
structure AA (X : Cx) (E : XK) (es : List Expr) (w : WA) : Prop where
  run : PA X es (tA X.K E w)
  mo : MoA w
structure AS (X : Cx) (E : XK) (st : Stmt) (w : WS) : Prop where
  run : PS X st (tS X.K E w)
  mo : MoS w
structure ASs (X : Cx) (E : XK) (sts : List Stmt) (w : WS) : Prop where
  run : PSs X sts (tS X.K E w)
  mo : MoS w
theorem PE.imp {X : Cx} {e : Expr} {t t' : TE} (p : PE X e t) (h : ∀ σ H Q, t' σ H Q → t σ H Q) : PE X e t' := ⟨fun pins s σ H Q I q => p.run pins s σ H Q I (h _ _ _ q)⟩
theorem PT.imp {X : Cx} {e : Expr} {t t' : TT} (p : PT X e t) (h : ∀ σ H Q, t' σ H Q → t σ H Q) : PT X e t' := ⟨fun pins s σ H Q I q => p.run pins s σ H Q I (h _ _ _ q)⟩
theorem PW.imp {X : Cx} {e : Expr} {t t' : TT} (p : PW X e t) (h : ∀ σ H Q, t' σ H Q → t σ H Q) : PW X e t' := ⟨fun wh pins s σ H Q I q => p.run wh pins s σ H Q I (h _ _ _ q)⟩
theorem PA.imp {X : Cx} {e : List Expr} {t t' : TA} (p : PA X e t) (h : ∀ σ H Q, t' σ H Q → t σ H Q) : PA X e t' := ⟨fun pos pins s σ H Q I q => p.run pos pins s σ H Q I (h _ _ _ q)⟩
theorem PS.imp {X : Cx} {e : Stmt} {t t' : TS} (p : PS X e t) (h : ∀ D σ H, t' D σ H → t D σ H) : PS X e t' := ⟨fun pins s σ H Q I q => p.run pins s σ H Q I (h _ _ _ q)⟩
theorem PSs.imp {X : Cx} {e : List Stmt} {t t' : TS} (p : PSs X e t) (h : ∀ D σ H, t' D σ H → t D σ H) : PSs X e t' := ⟨fun pins s σ H Q I q => p.run pins s σ H Q I (h _ _ _ q)⟩
end DL
namespace DL
open PySem PySem.Spec L2

/-! ### a def's promise over data -/
abbrev FSpec := List D → AH → KD → KX → Prop
def MoF (S : FSpec) : Prop := ∀ ds h Q Q' X X', (∀ d h, Q d h → Q' d h) → (∀ x h, X x h → X' x h) → S ds h Q X → S ds h Q' X'
def spD (K : PySem.W.Frag) (S : FSpec) : Sp := fun vs H Q E => ∃ F ds h, Sim K F h H ∧ Reps K F ds vs ∧ S ds h (LQ K F Q) (LX K F E)

/-- what is asked around a piece of code -/
structure Cg (gz : Bool) (X : Cx) (E : XK) (k : Nat) : Prop where
  room : Room k X.A
  gd : gz = true → X.A.guards = some []
  calm : X.calm = true
  nd : X.N.Nodup
  ps : Passes (L2.CX X.prog X.w) X E
  po : PassesOwn (model X.prog X.w) X.A X.env X.xe
theorem Cg.mono {gz : Bool} {X : Cx} {E : XK} {j k : Nat} (c : Cg gz X E k) (h : j ≤ k) : Cg gz X E j := ⟨c.room.mono h, c.gd, c.calm, c.nd, c.ps, c.po⟩

/-- a def at f keeps its promise: ahead of it no guard runs -/
structure FnG (gz : Bool) (P : Program) (w : World) (K : PySem.W.Frag) (mg : Str → Option Value) (base : Heap) (k : Nat) (f : Addr) (fd : FuncData) (ps : List Str) (S : FSpec) : Prop where
  len : ∀ ds h Q X, S ds h Q X → ds.length = ps.length
  mo : MoF S
  run : ∀ {A : Around} {outer : List Env} {s : Shared} {H : Hp} {args : Args} {us : List Value} {vs : List V} {Q : VK} {E : XK},
    Room k A → (gz = true → A.guards = some []) → Env0 P w K mg base A outer s H → BindsTo s fd args (ps.zip us) → Vals vs us → spD K S vs H Q E →
    codeAny (model P w) A (.call (.ref f) args) (CR (L2.CX P w) outer P w H s Q E) s
theorem FnG.mono {gz : Bool} {P : Program} {w : World} {K : PySem.W.Frag} {mg : Str → Option Value} {base : Heap} {j k : Nat} {f : Addr} {fd : FuncData} {ps : List Str} {S : FSpec}
    (G : FnG gz P w K mg base j f fd ps S) (h : j ≤ k) : FnG gz P w K mg base k f fd ps S :=
  ⟨G.len, G.mo, fun r g e b v q => G.run (r.mono h) g e b v q⟩

theorem spD_len {K : PySem.W.Frag} {S : FSpec} {n : Nat} (l : ∀ ds h Q X, S ds h Q X → ds.length = n) {vs : List V} {H : Hp} {Q : VK} {E : XK} (h : spD K S vs H Q E) : vs.length = n := by
  obtain ⟨F, ds, g, _, r, q⟩ := h
  rw [← r.length]; exact l _ _ _ _ q

theorem guards_deeper {A : Around} {env : PySem.Env} (g : A.guards = some []) : (A.deeper env).guards = some [] := by
  show A.guards = some []
  exact g

/-! ### from a body to the promise -/
/-- what may be told of a result: parts are dropped, a list that stands alone is frozen -/
inductive Fz : D → AH → D → AH → Prop where
  | sub {d : D} {h g : AH} : Sub g h → Fz d h d g
  | lst {a : Addr} {xs : List D} {h g : AH} : h a = some (.lst xs) → g a = none → Sub g h → Fz (.ref a) h (.lst xs) g
  | dK {a : Addr} {xs : List (Key × D)} {h g : AH} : h a = some (.dK xs) → g a = none → Sub g h → Fz (.ref a) h (.dK xs) g
  | dT {a : Addr} {xs : List (List Key × D)} {h g : AH} : h a = some (.dT xs) → g a = none → Sub g h → Fz (.ref a) h (.dT xs) g
def fin (Q : KD) : KD := fun d h => ∃ d' g, Fz d h d' g ∧ Q d' g
theorem fin_of {Q : KD} {d : D} {h : AH} (q : Q d h) : fin Q d h := ⟨d, h, .sub (.refl h), q⟩
theorem fin_sub {Q : KD} {d : D} {h g : AH} (s : Sub g h) (q : Q d g) : fin Q d h := ⟨d, g, .sub s, q⟩
theorem fin_new {Q : KD} {d : D} {h : AH} {p : Addr} {o : AO} (e : h p = none) (q : Q d h) : fin Q d (up h p o) := ⟨d, h, .sub (sub_up e), q⟩
theorem fin_lst {Q : KD} {h : AH} {p : Addr} {xs : List D} (e : h p = none) (q : Q (.lst xs) h) : fin Q (.ref p) (up h p (.lst xs)) := ⟨_, h, .lst up_same e (sub_up e), q⟩
theorem fin_dK {Q : KD} {h : AH} {p : Addr} {xs : List (Key × D)} (e : h p = none) (q : Q (.dK xs) h) : fin Q (.ref p) (up h p (.dK xs)) := ⟨_, h, .dK up_same e (sub_up e), q⟩
theorem fin_dT {Q : KD} {h : AH} {p : Addr} {xs : List (List Key × D)} (e : h p = none) (q : Q (.dT xs) h) : fin Q (.ref p) (up h p (.dT xs)) := ⟨_, h, .dT up_same e (sub_up e), q⟩

/-- a list among the changing ones is made one that does not change -/
theorem Sim.frz {K : PySem.W.Frag} {F : Hp} {h g : AH} {H : Hp} {a : Addr} {o : AO} {u : HO} (S : Sim K F h H) (e : h a = some o) (eu : H a = some u) (n : g a = none) (s : Sub g h) : Ext F (upd F a u) ∧ Sim K (upd F a u) g H := by
  obtain ⟨f, _⟩ := S.ob _ _ e
  refine ⟨ext_upd f, fun b v q => ?_, fun b v q => ?_⟩
  · by_cases c : b = a
    · subst c; rw [upd_same] at q; cases q; exact eu
    · rw [upd_ne c] at q; exact S.fz _ _ q
  · have c : b ≠ a := by rintro rfl; rw [n] at q; cases q
    obtain ⟨f1, w, hw, r⟩ := S.ob _ _ (s _ _ q)
    exact ⟨by rw [upd_ne c]; exact f1, w, hw, r.ext (ext_upd f)⟩
theorem LQ.fin {K : PySem.W.Frag} {F : Hp} {Q : VK} {d : D} {h : AH} (q : fin (LQ K F Q) d h) : LQ K F Q d h := by
  intro F' H' v e S r
  obtain ⟨d', g, z, q⟩ := q
  cases z with
  | sub s => exact q F' H' v e (S.sub s) r
  | @lst a xs _ _ ha hg s =>
    cases r
    obtain ⟨f, u, hu, vs, rfl, rs⟩ := S.ob _ _ ha
    obtain ⟨e2, S2⟩ := S.frz ha hu hg s
    exact q _ _ _ (e.trans e2) S2 (.lst upd_same (rs.ext e2))
  | @dK a xs _ _ ha hg s =>
    cases r
    obtain ⟨f, u, hu, vs, rfl, rs⟩ := S.ob _ _ ha
    obtain ⟨e2, S2⟩ := S.frz ha hu hg s
    exact q _ _ _ (e.trans e2) S2 (.dK upd_same (rs.ext e2))
  | @dT a xs _ _ ha hg s =>
    cases r
    obtain ⟨f, u, hu, vs, rfl, rs⟩ := S.ob _ _ ha
    obtain ⟨e2, S2⟩ := S.frz ha hu hg s
    exact q _ _ _ (e.trans e2) S2 (.dT upd_same (rs.ext e2))

def startD (n : Nat) (ds : List D) : EnvD := ds.map some ++ List.replicate (n - ds.length) none
def endsD (Q : KD) (X : KX) : EndsD := { nx := fun _ h => fin Q .non h, rt := fin Q, ex := X }
theorem start_env {K : PySem.W.Frag} {F : Hp} {N : List Str} {ds : List D} {vs : List V} (r : Reps K F ds vs) : EnvR K F (startD N.length ds) (L2.start N vs) := by
  have l := r.length
  refine ⟨by simp [startD, L2.start, l], fun i d e => ?_⟩
  unfold startD at e
  by_cases c : i < ds.length
  · rw [List.getElem?_append_left (by simpa using c), List.getElem?_map] at e
    cases q : ds[i]? with
    | none => rw [q] at e; cases e
    | some x =>
      rw [q] at e; cases e
      obtain ⟨v, h1, h2⟩ := r.get q
      refine ⟨v, ?_, h2⟩
      unfold L2.start
      rw [List.getElem?_append_left (by rw [List.length_map, ← l]; exact c), List.getElem?_map, h1]
      rfl
  · rw [List.getElem?_append_right (by simpa using c), List.getElem?_replicate] at e
    split at e <;> cases e


section
variable {P : Program} {w : World} {K : PySem.W.Frag} {mg : Str → Option Value} {base : Heap}
/-- THE RULE for a def: its body as a term of rules, and what it computes over data -/
theorem fng_of {gz : Bool} {x qual : Str} {st : Stmt} {f : Addr} {fd : FuncData} {N ps : List Str} {k : Nat} {S : FSpec} {W : WS}
    (F : Fun K x qual st f fd) (sc : FnScope N ps (defScope st)) (len : ∀ ds h Q X, S ds h Q X → ds.length = ps.length) (mo : MoF S)
    (body : ∀ (cdv : Value) (A : Around) (outer : List PySem.Env) (s : Shared) (H : Hp) (E : XK), Cg gz (cxOf (L2.CX P w) P w K mg base N qual (defScope st) f cdv A outer s H E) E k →
      ASs (cxOf (L2.CX P w) P w K mg base N qual (defScope st) f cdv A outer s H E) E (defBody st) W)
    (pure : ∀ ds h Q X, S ds h Q X → W (endsD Q X) (startD N.length ds) h) : FnG gz P w K mg base (k + 1) f fd ps S := by
  refine ⟨len, mo, fun {A outer s H args us vs Q E} hr hg e0 hb hv hs => ?_⟩
  obtain ⟨oc, od, kV, doc, pm, an, cdv, ct, osl, rfl, lk, hcd⟩ := F.ex
  have lenv := spD_len len hs
  have inK : K.In s.heap := e0.mod.kin.keeps fun b o e =>
    (e0.bs b o e).1
  have nol : s.heap.NoLimit := e0.mod.nolimit.keeps fun b o e =>
    (e0.bs b o e).1
  have kinds : ∀ y ∈ ps.zip us, (defScope st).names.lookup y.1 = some .local ∨
      ((defScope st).names.lookup y.1 = some .cell ∧ ((cellsFrom (s.heap.objs.size + 1) (defScope st).names []).lookup y.1).isSome = true) := by
    rintro ⟨n, v⟩ hy
    cases sc.par n (List.of_mem_zip hy).1 with
    | inl q => exact .inl q
    | inr q => exact .inr ⟨q, PySem.W.cellsFrom_some _ _ _ (.inl q)⟩
  refine codeAny_call_function hr.depth (inK _ _ lk) rfl
    sc.co sc.gen rfl (PySem.W.codeRec_of inK hcd) (hb _ _ _ _ ?_)
  refine wpAny_newFunctionEnv_cells sc.kind kinds
    fun env he s1 ic => ?_
  subst he
  refine ⟨nol.keeps ic.toInCall.keep,
    codeAny_func ?_⟩
  have I := inv_start (CX := L2.CX P w) (P := P) (w := w) (mg := mg) (base := base) (E := E) sc hr.hd e0 lenv hv ic
  have c : Cg gz (cxOf (L2.CX P w) P w K mg base N qual (defScope st) f cdv A outer s H E) E k :=
    ⟨hr.deeper _, hg, rfl, sc.nd, passes_call (takes_of rfl rfl rfl rfl) fun _ _ _ _ z => z, passes_of rfl⟩
  obtain ⟨F0, ds, g, S0, r0, q0⟩ := hs
  have B := body cdv A outer s H E c
  have go : tS K E W { nx := fun _ H' => Q .non H', rt := Q } (L2.start N vs) H := by
    refine ⟨F0, _, g, S0, start_env r0, B.mo (endsD (LQ K F0 Q) (LX K F0 E)) _ _ _ ⟨fun ρ h z => ?_, fun d h z => LQ.fin z, fun _ _ z => False.elim z, fun _ _ z => False.elim z, fun _ _ z => z⟩ (pure ds g _ _ q0)⟩
    exact fun F' H' σ' e S' _ => LQ.fin z F' H' .non e S' .non
  refine wpAny_mono (B.run.run [] s1 _ H _ I go) (fun fl s' hq => ?_) fun e s' hq => hq
  cases fl with
  | ret u =>
    obtain ⟨v, σ', H', J, rv, q⟩ := hq
    exact ⟨v, H', J.os, J.bare, J.base, J.hok, rv, q⟩
  | next =>
    obtain ⟨σ', H', J, q⟩ := hq
    exact ⟨.non, H', J.os, J.bare, J.base, J.hok, rfl, q⟩
  | brk => obtain ⟨_, _, _, q⟩ := hq; exact q.elim
  | cont => obtain ⟨_, _, _, q⟩ := hq; exact q.elim
end

/-! ### calls -/
/-- how n positional values and the keywords' values (names ks) come to the parameters -/
structure Bnd (K : PySem.W.Frag) (fd : FuncData) (ps : List Str) (n : Nat) (ks : List Str) (g : List D → List D → List D) : Prop where
  to : ∀ (s : Shared) (F : Hp) (ds zs : List D) (vs ys : List V) (us ws : List Value), K.In s.heap → ds.length = n → zs.length = ks.length →
    Reps K F ds vs → Vals vs us → Reps K F zs ys → Vals ys ws → ∃ xs ts, Reps K F (g ds zs) xs ∧ Vals xs ts ∧ BindsTo s fd ⟨us, ks.zip ws⟩ (ps.zip ts)
theorem Bnd.plain {K : PySem.W.Frag} {fd : FuncData} {ps : List Str} (h : ∀ us : List Value, us.length = ps.length → bindArgs fd ⟨us, []⟩ = pure (ps.zip us)) : Bnd K fd ps ps.length [] (fun ds _ => ds) := by
  refine ⟨fun s F ds zs vs ys us ws X l1 l2 r1 r2 r3 r4 => ⟨vs, us, r1, r2, ?_⟩⟩
  have l : us.length = ps.length := by rw [← r2.length, ← r1.length]; exact l1
  cases zs with
  | cons _ _ => cases l2
  | nil => cases r3; cases r4; exact .of_eq (h us l)
/-- a def that a name of the module holds -/
structure Cal (gz : Bool) (P : Program) (w : World) (K : PySem.W.Frag) (mg : Str → Option Value) (base : Heap) (x : Str) (k n : Nat) (ks : List Str) (g : List D → List D → List D) (S : FSpec) : Prop where
  ex : ∃ f fd ps, mg x = some (.ref f) ∧ PySem.W.keepIn K (.ref f) = true ∧ FnG gz P w K mg base k f fd ps S ∧ Bnd K fd ps n ks g

section
variable {X : Cx} {E : XK} {k n : Nat} {ks : List Str} {g : List D → List D → List D} {S : FSpec} {x : Str} {p pos : Pos} {e : Expr} {es : List Expr} {wa wk : WA}
theorem run_g {gz gy : Bool} {pins : List (Addr × Obj)} {σ : L2.St} {H : Hp} {s : Shared} {Q : VK} {f : Addr} {fd : FuncData} {ps : List Str} {args : Args} {us : List Value} {vs : List V} (c : Cg gz X E k)
    (G : FnG gy X.prog X.w X.K X.mg X.base k f fd ps S) (hz : gy = true → gz = true) (I : Inv X pins σ H s) (hb : BindsTo s fd args (ps.zip us)) (r : Vals vs us) (h : spD X.K S vs H Q E) :
    codeAny (model X.prog X.w) X.A (.call (.ref f) args) (fun r s' => match r with | .ok (.ret u) => EP X pins σ Q u s' | .ok _ => False | .error e => X.xe e s') s := by
  refine codeAny_mono (G.run c.room (fun z => c.gd (hz z)) I.env0 hb r h) fun r s' hq => ?_
  match r, hq with
  | .error e, hq => exact c.ps pins σ H s e s' I hq
  | .ok (.ret u), hq => exact I.after hq
  | .ok .next, hq => exact hq.elim
  | .ok .brk, hq => exact hq.elim
  | .ok .cont, hq => exact hq.elim
end
/-- f(..): n positional values, keywords -/
def wCall (S : FSpec) (n m : Nat) (g : List D → List D → List D) (wa wk : WA) : WE := fun ρ h Q X => wa ρ h (fun ds h1 => wk ρ h1 (fun zs h2 => ds.length = n ∧ zs.length = m ∧ S (g ds zs) h2 Q X) X) X
end DL
namespace DL
open PySem PySem.Spec L2

/-! ### data as the library's own data -/
mutual
def pd : D → PyData
  | .non => .none
  | .bl b => .bool b
  | .int i => .int i
  | .str s => .str s
  | .tup xs => .tuple (pds xs)
  | .tpl xs => .tuple (pds xs)
  | .lst xs => .list (pds xs)
  | .ref _ => .none
  | .ty _ => .none
  | .lk _ => .none
  | .ob _ _ => .none
  | .dK _ => .none
  | .dT _ => .none
def pds : List D → List PyData
  | [] => []
  | x :: xs => pd x :: pds xs
end
mutual
def dat : D → Bool
  | .non => true
  | .bl _ => true
  | .int _ => true
  | .str _ => true
  | .tup xs => dats xs
  | .tpl xs => dats xs
  | .lst xs => dats xs
  | .ref _ => false
  | .ty _ => false
  | .lk _ => false
  | .ob _ _ => false
  | .dK _ => false
  | .dT _ => false
def dats : List D → Bool
  | [] => true
  | x :: xs => dat x && dats xs
end
theorem pds_map : ∀ xs : List D, pds xs = xs.map pd
  | [] => rfl
  | x :: xs => by rw [pds, pds_map xs]; rfl
theorem dats_all : ∀ xs : List D, dats xs = xs.all dat
  | [] => rfl
  | x :: xs => by rw [dats, dats_all xs]; rfl
/-- a list or dict that may change, as it stands now -/
def cur (h : AH) : D → D
  | .ref a => match h a with
    | some (.lst xs) => .lst xs
    | some (.dK kvs) => .dK kvs
    | some (.dT kvs) => .dT kvs
    | _ => .ref a
  | d => d
section
variable {K : PySem.W.Frag} {F H : Hp}
theorem sqt_of {a : Addr} {vs : List V} (e : ∀ a o, F a = some o → H a = some o) (h : SqT K F a vs) : SqT K H a vs := Ext.sqt e h
mutual
theorem Rep.dp (e : ∀ a o, F a = some o → H a = some o) : ∀ {d : D} {v : V}, Rep K F d v → dat d = true → Dp K H v (pd d)
  | _, _, .non, _ => by rw [pd]; exact .non
  | _, _, .bl b, _ => by rw [pd]; exact .bl b
  | _, _, .int i, _ => by rw [pd]; exact .int i
  | _, _, .str s, _ => by rw [pd]; exact .str s
  | _, _, .ref a, h => by rw [dat] at h; cases h
  | _, _, .ty n, h => by rw [dat] at h; cases h
  | _, _, .lk _ _, h => by rw [dat] at h; cases h
  | _, _, .ob _ _, h => by rw [dat] at h; cases h
  | _, _, .dK _ _, h => by rw [dat] at h; cases h
  | _, _, .dT _ _, h => by rw [dat] at h; cases h
  | _, _, .tup h r, q => by rw [dat] at q; rw [pd]; exact .tup (sqt_of e h) (Reps.dp e r q)
  | _, _, .tpl h hd r, q => by rw [dat] at q; rw [pd]; exact .tup (sqt_of e (.inl (.inr ⟨_, h⟩))) (Reps.dp e r q)
  | _, _, .lst h r, q => by rw [dat] at q; rw [pd]; exact .lst (.of (e _ _ h)) (Reps.dp e r q)
theorem Reps.dp (e : ∀ a o, F a = some o → H a = some o) : ∀ {ds : List D} {vs : List V}, Reps K F ds vs → dats ds = true → DpAll K H vs (pds ds)
  | _, _, .nil, _ => by rw [pds]; exact .nil
  | _, _, .cons h t, q => by
    rw [dats, Bool.and_eq_true] at q
    rw [pds]; exact .cons (Rep.dp e h q.1) (Reps.dp e t q.2)
end
theorem Sim.curDp {h : AH} (S : Sim K F h H) {d : D} {v : V} (r : Rep K F d v) (q : dat (cur h d) = true) : Dp K H v (pd (cur h d)) := by
  have base : ∀ {d : D} {v : V}, Rep K F d v → dat d = true → Dp K H v (pd d) := fun r q => r.dp S.fz q
  cases r with
  | ref a =>
    cases e : h a with
    | none => simp [cur, e, dat] at q
    | some o =>
      cases o with
      | lst xs =>
        obtain ⟨_, u, hu, vs, rfl, rs⟩ := S.ob _ _ e
        simp only [cur, e, dat] at q
        simp only [cur, e, pd]
        exact .lst (.of hu) (rs.dp S.fz q)
      | dK _ => simp [cur, e, dat] at q
      | dT _ => simp [cur, e, dat] at q
      | ins _ _ => simp [cur, e, dat] at q
      | lck _ => simp [cur, e, dat] at q
  | non => exact base .non q
  | bl b => exact base (.bl b) q
  | int i => exact base (.int i) q
  | str s => exact base (.str s) q
  | ty n => exact base (.ty n) q
  | tup h r => exact base (.tup h r) q
  | tpl h hd r => exact base (.tpl h hd r) q
  | lst h r => exact base (.lst h r) q
  | dK h r => exact base (.dK h r) q
  | dT h r => exact base (.dT h r) q
  | lk h r => exact base (.lk h r) q
  | ob h r => exact base (.ob h r) q
end

/-! ### lists -/
def lstOf (h : AH) : D → Option (List D)
  | .lst xs => some xs
  | .ref a => match h a with
    | some (.lst xs) => some xs
    | _ => none
  | _ => none
def seqOf (h : AH) : D → Option (List D)
  | .tup xs => some xs
  | .tpl xs => some xs
  | d => lstOf h d
def newL (m : Bool) (xs : List D) (h : AH) (Q : KD) : Prop := if m = true then ∀ p, h p = none → Q (.ref p) (up h p (.lst xs)) else Q (.lst xs) h
section
variable {K : PySem.W.Frag} {F : Hp} {h : AH} {H : Hp} {d : D} {v : V} {xs : List D}
theorem Sim.lstOf (S : Sim K F h H) (r : Rep K F d v) (e : lstOf h d = some xs) : ∃ a vs, v = .ref a ∧ H a = some (.lst vs) ∧ Reps K F xs vs := by
  cases r with
  | ref a =>
    cases q : h a with
    | none => simp [DL.lstOf, q] at e
    | some o =>
      cases o with
      | lst ys =>
        simp only [DL.lstOf, q, Option.some.injEq] at e
        subst e
        obtain ⟨_, u, hu, vs, rfl, rs⟩ := S.ob _ _ q
        exact ⟨a, vs, rfl, hu, rs⟩
      | dK _ => simp [DL.lstOf, q] at e
      | dT _ => simp [DL.lstOf, q] at e
      | ins _ _ => simp [DL.lstOf, q] at e
      | lck _ => simp [DL.lstOf, q] at e
  | @lst a ys vs hf rs =>
    cases e
    exact ⟨a, vs, rfl, S.fz _ _ hf, rs⟩
  | non => cases e
  | bl _ => cases e
  | int _ => cases e
  | str _ => cases e
  | ty _ => cases e
  | lk _ _ => cases e
  | ob _ _ => cases e
  | tup _ _ => cases e
  | tpl _ _ _ => cases e
  | dK _ _ => cases e
  | dT _ _ => cases e
theorem Sim.seqOf (S : Sim K F h H) (r : Rep K F d v) (e : seqOf h d = some xs) : ∃ a vs, v = .ref a ∧ (SqL K H a vs ∨ SqT K H a vs) ∧ Reps K F xs vs := by
  by_cases c : ∃ ys, d = .tup ys
  · obtain ⟨ys, rfl⟩ := c
    cases r with
    | @tup a _ vs hf rs =>
      cases e
      exact ⟨a, vs, rfl, .inr (sqt_of S.fz hf), rs⟩
  by_cases c2 : ∃ ys, d = .tpl ys
  · obtain ⟨ys, rfl⟩ := c2
    cases r with
    | @tpl a _ _ vs hf _ rs =>
      cases e
      exact ⟨a, vs, rfl, .inr (sqt_of S.fz (.inl (.inr ⟨_, hf⟩))), rs⟩
  · have e' : DL.lstOf h d = some xs := by
      cases d <;> first | exact e | exact absurd ⟨_, rfl⟩ c | exact absurd ⟨_, rfl⟩ c2
    obtain ⟨a, vs, r1, r2, r3⟩ := S.lstOf r e'
    exact ⟨a, vs, r1, .inl (.of r2), r3⟩
theorem Sim.newL {m : Bool} {vs : List V} {Q : VK} (S : Sim K F h H) (r : Reps K F xs vs) (q : newL m xs h (LQ K F Q)) : ∀ p, H p = none → Q (.ref p) (upd H p (.lst vs)) := by
  intro p hp
  obtain ⟨f, g⟩ := S.free hp
  unfold DL.newL at q
  split at q
  · exact q p g F _ _ (.refl F) (S.newM hp ⟨vs, rfl, r⟩) (.ref p)
  · exact q _ _ _ (ext_upd f) (S.newF hp _) (.lst upd_same (r.ext (ext_upd f)))
theorem newL_mo {m : Bool} {Q Q' : KD} (hq : ∀ d h, Q d h → Q' d h) (q : newL m xs h Q) : newL m xs h Q' := by
  unfold newL at *
  split at q
  · rename_i c; rw [if_pos c]; exact fun p e => hq _ _ (q p e)
  · rename_i c; rw [if_neg c]; exact hq _ _ q
@[simp] theorem newL_t {Q : KD} : newL true xs h Q = ∀ p, h p = none → Q (.ref p) (up h p (.lst xs)) := by simp [newL]
@[simp] theorem newL_f {Q : KD} : newL false xs h Q = Q (.lst xs) h := by simp [newL]
/-- a new tuple -/
theorem Sim.newT {vs : List V} {Q : VK} (S : Sim K F h H) (r : Reps K F xs vs) (q : LQ K F Q (.tup xs) h) : ∀ p, H p = none → Q (.ref p) (upd H p (.tup vs)) := by
  intro p hp
  obtain ⟨f, g⟩ := S.free hp
  exact q _ _ _ (ext_upd f) (S.newF hp _) (.tup (.of upd_same) (r.ext (ext_upd f)))
theorem LQ.at {Q : VK} (q : LQ K F Q d h) (S : Sim K F h H) (r : Rep K F d v) : Q v H := q F H v (.refl F) S r
end

/-! ### operators over data -/
structure OpD (K : PySem.W.Frag) (r : V → V → Hp → VK → Prop) (f : D → D → AH → KD → Prop) : Prop where
  to : ∀ {F h H x y vx vy} {Q : VK}, Sim K F h H → Rep K F x vx → Rep K F y vy → f x y h (LQ K F Q) → r vx vy H Q
  mo : ∀ {x y h} {Q Q' : KD}, (∀ d h, Q d h → Q' d h) → f x y h Q → f x y h Q'

def MulOk (i j : Int) : Prop := (-(2 ^ 64) < i ∧ i < 2 ^ 64) ∨ (-(2 ^ 64) < j ∧ j < 2 ^ 64) ∨ i.natAbs.log2 + j.natAbs.log2 < 1000000
def DivOk (j : Int) : Prop := 0 < j ∧ (j < 1073741824 ∨ j.natAbs.log2 < 9000)
def PowOk (i j : Int) : Prop := 0 ≤ j ∧ j ≤ 1000000 ∧ i.natAbs < 2 ^ 64

def dAdd (m : Bool) (x y : D) (h : AH) (Q : KD) : Prop := match x, y with
  | .int i, .int j => Q (.int (i + j)) h
  | .str a, .str b => a.length + b.length ≤ sizeLine ∧ Q (.str (a ++ b)) h
  | .tup xs, .tup ys => xs.length + ys.length ≤ sizeLine ∧ Q (.tup (xs ++ ys)) h
  | x, y => ∃ xs ys, lstOf h x = some xs ∧ lstOf h y = some ys ∧ xs.length + ys.length ≤ sizeLine ∧ newL m (xs ++ ys) h Q
def dSub (x y : D) (h : AH) (Q : KD) : Prop := match x, y with
  | .int i, .int j => Q (.int (i - j)) h
  | _, _ => False
def dMul (m : Bool) (x y : D) (h : AH) (Q : KD) : Prop := match x, y with
  | .int i, .int j => MulOk i j ∧ Q (.int (i * j)) h
  | x, .int k => ∃ xs, lstOf h x = some xs ∧ k < 2 ^ 62 ∧ -(2 ^ 62) < k ∧ xs.length * k.toNat ≤ sizeLine ∧ newL m (List.replicate k.toNat xs).flatten h Q
  | _, _ => False
def dDiv (x y : D) (h : AH) (Q : KD) : Prop := match x, y with
  | .int i, .int j => DivOk j ∧ Q (.int (i / j)) h
  | _, _ => False
def dMod (x y : D) (h : AH) (Q : KD) : Prop := match x, y with
  | .int i, .int j => 0 < j ∧ Q (.int (i % j)) h
  | _, _ => False
def dPow (x y : D) (h : AH) (Q : KD) : Prop := match x, y with
  | .int i, .int j => PowOk i j ∧ Q (.int (i ^ j.toNat)) h
  | _, _ => False
def dCmpI (f : Int → Int → Bool) (x y : D) (h : AH) (Q : KD) : Prop := match x, y with
  | .int i, .int j => Q (.bl (f i j)) h
  | _, _ => False
/-- == of data -/
def dEq (f : Bool → Bool) (x y : D) (h : AH) (Q : KD) : Prop := match x, y with
  | .int i, .int j => Q (.bl (f (decide (i = j)))) h
  | .str i, .str j => Q (.bl (f (decide (i = j)))) h
  | .bl i, .bl j => Q (.bl (f (decide (i = j)))) h
  | x, y => dat (cur h x) = true ∧ dat (cur h y) = true ∧ SeqAt.shaped (pd (cur h x)) = true ∧ SeqAt.shaped (pd (cur h y)) = true ∧ Q (.bl (f (PyData.eqv (pd (cur h x)) (pd (cur h y))))) h
def dIsN (f : Bool → Bool) (x y : D) (h : AH) (Q : KD) : Prop := match x, y with
  | .non, .non => Q (.bl (f true)) h
  | .bl i, .bl j => Q (.bl (f (decide (i = j)))) h
  | _, .non => Q (.bl (f false)) h
  | _, _ => False

section
variable {X : Cx}
/-- the rule of values that a D-operator stands on -/
def rMul (K : PySem.W.Frag) : R2 := fun x y H Q => rI CMul (fun i j => .int (i * j)) x y H Q ∨ rI CMulW (fun i j => .int (i * j)) x y H Q ∨ rRep x y H Q
theorem op_mulD : OpR X (binaryOp .Mult) (rMul X.K) := OpR.or op_mul (OpR.or op_mulW op_rep)
theorem dMul_ok {K : PySem.W.Frag} {m : Bool} : OpD K (rMul K) (dMul m) where
  to := by
    intro F h H x y vx vy Q S rx ry q
    unfold dMul at q
    split at q
    · cases rx; cases ry
      obtain ⟨c, q⟩ := q
      rcases c with c | c | c
      · exact .inl ⟨_, _, rfl, rfl, .inl c, q.at S (.int _)⟩
      · exact .inl ⟨_, _, rfl, rfl, .inr c, q.at S (.int _)⟩
      · exact .inr (.inl ⟨_, _, rfl, rfl, c, q.at S (.int _)⟩)
    · obtain ⟨xs, e, c1, c2, l, q⟩ := q
      obtain ⟨a, vs, rfl, ha, rs⟩ := S.lstOf rx e
      cases ry
      refine .inr (.inr ⟨a, _, vs, rfl, rfl, ha, by omega, by omega, by rw [← rs.length]; exact l, S.newL (vs := (List.replicate _ vs).flatten) ?_ q⟩)
      generalize Int.toNat _ = n
      induction n with
      | zero => exact .nil
      | succ n ih => rw [List.replicate_succ, List.replicate_succ, List.flatten_cons, List.flatten_cons]; exact rs.append ih
    · exact q.elim
  mo := by
    intro x y h Q Q' hq q
    unfold dMul at *
    split at q
    · exact ⟨q.1, hq _ _ q.2⟩
    · obtain ⟨xs, e, c1, c2, l, q⟩ := q
      exact ⟨xs, e, c1, c2, l, newL_mo hq q⟩
    · exact q.elim
def rAddD (K : PySem.W.Frag) : R2 := fun x y H Q => rI0 (fun i j => .int (i + j)) x y H Q ∨ (∃ i j, x = .str i ∧ y = .str j ∧ i.length + j.length ≤ sizeLine ∧ Q (.str (i ++ j)) H) ∨ rCatA K x y H Q ∨ rCat x y H Q
theorem op_addD : OpR X (binaryOp .Add) (rAddD X.K) := OpR.or op_add (OpR.or op_add_str (OpR.or op_catA op_cat))
theorem reps_nil {K : PySem.W.Frag} {F : Hp} {xs : List D} {vs : List V} (r : Reps K F xs vs) : vs = [] ↔ xs = [] := by
  cases r <;> simp
theorem dAdd_ok {K : PySem.W.Frag} {m : Bool} : OpD K (rAddD K) (dAdd m) where
  to := by
    intro F h H x y vx vy Q S rx ry q
    unfold dAdd at q
    split at q
    · cases rx; cases ry
      exact .inl ⟨_, _, rfl, rfl, q.at S (.int _)⟩
    · cases rx; cases ry
      exact .inr (.inl ⟨_, _, rfl, rfl, q.1, q.2.at S (.str _)⟩)
    · cases rx with
      | @tup a xs vs ha rs =>
      cases ry with
      | @tup b ys ws hb rt =>
      obtain ⟨l, q⟩ := q
      refine .inr (.inr (.inl ⟨a, b, vs, ws, rfl, rfl, sqt_of S.fz ha, sqt_of S.fz hb, by rw [← rs.length, ← rt.length]; exact l, fun e => ?_, fun _ e => ?_, fun _ _ => S.newT (rs.append rt) q⟩))
      · rw [(reps_nil rs).mp e, List.nil_append] at q
        exact q.at S (.tup hb rt)
      · rw [(reps_nil rt).mp e, List.append_nil] at q
        exact q.at S (.tup ha rs)
    · obtain ⟨xs, ys, e1, e2, l, q⟩ := q
      obtain ⟨a, vs, rfl, ha, rs⟩ := S.lstOf rx e1
      obtain ⟨b, ws, rfl, hb, rt⟩ := S.lstOf ry e2
      exact .inr (.inr (.inr ⟨a, b, vs, ws, rfl, rfl, ha, hb, by rw [← rs.length, ← rt.length]; exact l, S.newL (rs.append rt) q⟩))
  mo := by
    intro x y h Q Q' hq q
    unfold dAdd at *
    split at q
    · exact hq _ _ q
    · exact ⟨q.1, hq _ _ q.2⟩
    · exact ⟨q.1, hq _ _ q.2⟩
    · obtain ⟨xs, ys, e1, e2, l, q⟩ := q
      exact ⟨xs, ys, e1, e2, l, newL_mo hq q⟩
theorem dSub_ok {K : PySem.W.Frag} : OpD K (rI0 fun i j => .int (i - j)) dSub where
  to := by
    intro F h H x y vx vy Q S rx ry q
    unfold dSub at q
    split at q
    · cases rx; cases ry; exact ⟨_, _, rfl, rfl, q.at S (.int _)⟩
    · exact q.elim
  mo := by
    intro x y h Q Q' hq q
    unfold dSub at *
    split at q
    · exact hq _ _ q
    · exact q.elim
def rDivD : R2 := fun x y H Q => rI CDiv (fun i j => .int (i / j)) x y H Q ∨ rI CDivW (fun i j => .int (i / j)) x y H Q
theorem op_divD : OpR X (binaryOp .FloorDiv) rDivD := OpR.or op_fdiv op_fdivW
theorem dDiv_ok {K : PySem.W.Frag} : OpD K rDivD dDiv where
  to := by
    intro F h H x y vx vy Q S rx ry q
    unfold dDiv at q
    split at q
    · cases rx; cases ry
      obtain ⟨⟨c0, c⟩, q⟩ := q
      rcases c with c | c
      · exact .inl ⟨_, _, rfl, rfl, ⟨c0, c⟩, q.at S (.int _)⟩
      · exact .inr ⟨_, _, rfl, rfl, ⟨c0, c⟩, q.at S (.int _)⟩
    · exact q.elim
  mo := by
    intro x y h Q Q' hq q
    unfold dDiv at *
    split at q
    · exact ⟨q.1, hq _ _ q.2⟩
    · exact q.elim
theorem dMod_ok {K : PySem.W.Frag} : OpD K (rI (fun _ j => 0 < j) fun i j => .int (i % j)) dMod where
  to := by
    intro F h H x y vx vy Q S rx ry q
    unfold dMod at q
    split at q
    · cases rx; cases ry; exact ⟨_, _, rfl, rfl, q.1, q.2.at S (.int _)⟩
    · exact q.elim
  mo := by
    intro x y h Q Q' hq q
    unfold dMod at *
    split at q
    · exact ⟨q.1, hq _ _ q.2⟩
    · exact q.elim
theorem dPow_ok {K : PySem.W.Frag} : OpD K (rI CPow fun i j => .int (i ^ j.toNat)) dPow where
  to := by
    intro F h H x y vx vy Q S rx ry q
    unfold dPow at q
    split at q
    · cases rx; cases ry; exact ⟨_, _, rfl, rfl, q.1, q.2.at S (.int _)⟩
    · exact q.elim
  mo := by
    intro x y h Q Q' hq q
    unfold dPow at *
    split at q
    · exact ⟨q.1, hq _ _ q.2⟩
    · exact q.elim
theorem dCmpI_ok {K : PySem.W.Frag} {f : Int → Int → Bool} : OpD K (rI0 fun i j => .bl (f i j)) (dCmpI f) where
  to := by
    intro F h H x y vx vy Q S rx ry q
    unfold dCmpI at q
    split at q
    · cases rx; cases ry; exact ⟨_, _, rfl, rfl, q.at S (.bl _)⟩
    · exact q.elim
  mo := by
    intro x y h Q Q' hq q
    unfold dCmpI at *
    split at q
    · exact hq _ _ q
    · exact q.elim
def rEqF (K : PySem.W.Frag) (f : Bool → Bool) : R2 := fun x y H Q => (scal x y = true ∧ Q (.bl (f (decide (x = y)))) H) ∨ ∃ d e, Dp K H x d ∧ Dp K H y e ∧ SeqAt.shaped d = true ∧ SeqAt.shaped e = true ∧ Q (.bl (f (PyData.eqv d e))) H
theorem op_eqF (hu : X.A.units + 64 < cLine) : OpR X (compareOp .Eq) (rEqF X.K fun b => b) := OpR.or op_eq (op_eqD hu)
theorem op_neF (hu : X.A.units + 64 < cLine) : OpR X (compareOp .NotEq) (rEqF X.K fun b => !b) := OpR.or op_ne (op_neD hu)
theorem dec_int {i j : Int} : decide (V.int i = V.int j) = decide (i = j) := by simp
theorem dec_str {i j : Str} : decide (V.str i = V.str j) = decide (i = j) := by simp
theorem dec_bl {i j : Bool} : decide (V.bl i = V.bl j) = decide (i = j) := by simp
theorem dEq_ok {K : PySem.W.Frag} {f : Bool → Bool} : OpD K (rEqF K f) (dEq f) where
  to := by
    intro F h H x y vx vy Q S rx ry q
    unfold dEq at q
    split at q
    · cases rx; cases ry; exact .inl ⟨rfl, by rw [dec_int]; exact q.at S (.bl _)⟩
    · cases rx; cases ry; exact .inl ⟨rfl, by rw [dec_str]; exact q.at S (.bl _)⟩
    · cases rx; cases ry; exact .inl ⟨rfl, by rw [dec_bl]; exact q.at S (.bl _)⟩
    · obtain ⟨c1, c2, c3, c4, q⟩ := q
      exact .inr ⟨_, _, S.curDp rx c1, S.curDp ry c2, c3, c4, q.at S (.bl _)⟩
  mo := by
    intro x y h Q Q' hq q
    unfold dEq at *
    split at q
    · exact hq _ _ q
    · exact hq _ _ q
    · exact hq _ _ q
    · obtain ⟨c1, c2, c3, c4, q⟩ := q
      exact ⟨c1, c2, c3, c4, hq _ _ q⟩
def rIsF (f : Bool → Bool) : R2 := fun x y H Q => (y = .non ∧ Q (.bl (f (decide (x = .non)))) H) ∨ ∃ a b : Bool, x = .bl a ∧ y = .bl b ∧ Q (.bl (f (decide (a = b)))) H
theorem op_isF : OpR X (compareOp .Is) (rIsF fun b => b) := OpR.or op_isN op_isBl
theorem op_notF : OpR X (compareOp .IsNot) (rIsF fun b => !b) := OpR.or op_notN op_notBl
theorem Rep.nonv {K : PySem.W.Frag} {F : Hp} {d : D} {v : V} (r : Rep K F d v) (h : d ≠ .non) : v ≠ .non := by
  cases r <;> first | exact absurd rfl h | (intro z; cases z)
theorem dIsN_ok {K : PySem.W.Frag} {f : Bool → Bool} : OpD K (rIsF f) (dIsN f) where
  to := by
    intro F h H x y vx vy Q S rx ry q
    unfold dIsN at q
    split at q
    · cases rx; cases ry; exact .inl ⟨rfl, q.at S (.bl _)⟩
    · cases rx; cases ry; exact .inr ⟨_, _, rfl, rfl, q.at S (.bl _)⟩
    · rename_i hx _
      cases ry
      have n : vx ≠ .non := rx.nonv (by intro e; subst e; simp_all)
      exact .inl ⟨rfl, by rw [decide_eq_false n]; exact q.at S (.bl _)⟩
    · exact q.elim
  mo := by
    intro x y h Q Q' hq q
    unfold dIsN at *
    split at q
    · exact hq _ _ q
    · exact hq _ _ q
    · exact hq _ _ q
    · exact q.elim
end
end DL
namespace DL
open PySem PySem.Spec L2

/-! ### expressions over data -/
def wC (d : D) : WE := fun _ h Q _ => Q d h
def wVar (i : Nat) : WE := fun ρ h Q _ => match ρ[i]? with
  | some (some d) => Q d h
  | _ => False
def wOp (f : D → D → AH → KD → Prop) (a b : WE) : WE := fun ρ h Q X => a ρ h (fun x h1 => b ρ h1 (fun y h2 => f x y h2 Q) X) X
def wNeg (a : WE) : WE := fun ρ h Q X => a ρ h (fun x h1 => match x with
  | .int i => Q (.int (-i)) h1
  | _ => False) X
def wChain (f g : D → D → AH → KD → Prop) (a b c : WE) : WE := fun ρ h Q X => a ρ h (fun x h1 => b ρ h1 (fun y h2 => f x y h2 fun z h3 => match z with
  | .bl k => if k = true then c ρ h3 (fun u h4 => g y u h4 Q) X else Q (.bl false) h3
  | _ => False) X) X
def wTest (a : WE) : WT := fun ρ h Q X => a ρ h (fun x h1 => match x with
  | .bl b => Q b h1
  | _ => False) X
def truD (h : AH) (x : D) : Option Bool := match cur h x with
  | .non => some false
  | .bl b => some b
  | .int i => some (i != 0)
  | .tup xs => some (!xs.isEmpty)
  | .tpl xs => some (!xs.isEmpty)
  | .lst xs => some (!xs.isEmpty)
  | .dK xs => some (!xs.isEmpty)
  | _ => none
def wTruth (a : WE) : WT := fun ρ h Q X => a ρ h (fun x h1 => ∃ k, truD h1 x = some k ∧ Q k h1) X
def wAnd (a b : WT) : WT := fun ρ h Q X => a ρ h (fun c h1 => if c = true then b ρ h1 Q X else Q false h1) X
def wOr (a b : WT) : WT := fun ρ h Q X => a ρ h (fun c h1 => if c = true then Q true h1 else b ρ h1 Q X) X
def wNot (a : WT) : WT := fun ρ h Q X => a ρ h (fun c h1 => Q (!c) h1) X
def wAndV (a b : WE) : WE := fun ρ h Q X => a ρ h (fun x h1 => match x with
  | .bl c => if c = true then b ρ h1 Q X else Q (.bl false) h1
  | _ => False) X
def wOrV (a b : WE) : WE := fun ρ h Q X => a ρ h (fun x h1 => match x with
  | .bl c => if c = true then Q (.bl true) h1 else b ρ h1 Q X
  | _ => False) X
def wNotV (a : WE) : WE := fun ρ h Q X => a ρ h (fun x h1 => match x with
  | .bl c => Q (.bl (!c)) h1
  | _ => False) X
def wIf (t : WT) (a b : WE) : WE := fun ρ h Q X => t ρ h (fun c h1 => if c = true then a ρ h1 Q X else b ρ h1 Q X) X
def wNil : WA := fun _ h Q _ => Q [] h
def wCons (a : WE) (r : WA) : WA := fun ρ h Q X => a ρ h (fun x h1 => r ρ h1 (fun xs h2 => Q (x :: xs) h2) X) X
def wTup (a : WA) : WE := fun ρ h Q X => a ρ h (fun xs h1 => xs.length ≤ sizeLine ∧ Q (.tup xs) h1) X
def wLst (m : Bool) (a : WA) : WE := fun ρ h Q X => a ρ h (fun xs h1 => xs.length ≤ sizeLine ∧ newL m xs h1 Q) X
def wCallP (S : FSpec) (n : Nat) (g : List D → List D → List D) (wa : WA) : WE := fun ρ h Q X => wa ρ h (fun ds h1 => ds.length = n ∧ S (g ds []) h1 Q X) X
/-- a built-in -/
def wB (r : List D → AH → KD → Prop) (a : WA) : WE := fun ρ h Q X => a ρ h (fun xs h1 => r xs h1 Q) X

section
variable {X : Cx} {E : XK} {k : Nat} {a b e : Expr} {es : List Expr} {wa wb wc : WE} {ta tb : WT} {wl : WA} {pos : Pos}

theorem ae_c {v : V} {d : D} (h : PE X e (tC v)) (r : ∀ F, Rep X.K F d v) : AE X E e (wC d) := by
  refine ⟨PE.imp h fun σ H Q ⟨F, ρ, g, S, R, q⟩ => ?_, fun ρ h Q Q' X X' hq _ q => hq _ _ q⟩
  exact LQ.at q S (r F)
theorem ae_int {i : Int} {j pos} : AE X E (.Constant (.int i) j pos) (wC (.int i)) := ae_c pe_int fun _ => .int i
theorem ae_bl {i : Bool} {j pos} : AE X E (.Constant (.bool i) j pos) (wC (.bl i)) := ae_c pe_bl fun _ => .bl i
theorem ae_non {j pos} : AE X E (.Constant .none j pos) (wC .non) := ae_c pe_non fun _ => .non
theorem ae_str {i : Str} {j pos} : AE X E (.Constant (.str i) j pos) (wC (.str i)) := ae_c pe_str fun _ => .str i
/-- what a name of the module holds -/
structure Cst (K : PySem.W.Frag) (mg : Str → Option Value) (x : Str) (d : D) : Prop where
  ex : ∃ v u, mg x = some u ∧ RelV v u ∧ ∀ F, Rep K F d v
theorem ae_glob {x : Str} {d : D} (c : Cst X.K X.mg x d) (hg : Gl X x := by rfl) (hd : (x == ("__debug__" : Str)) = false := by decide) : AE X E (.Name x pos) (wC d) := by
  obtain ⟨v, u, m, r, q⟩ := c.ex
  exact ae_c (pe_glob hg m r hd) q
theorem ae_ty {x : Str} {n : String} (hm : X.mg x = none) (hv : bootBuiltins x = some (.type n)) (hg : Gl X x := by rfl) (hn : x ≠ "__name__" := by decide) (hd : (x == ("__debug__" : Str)) = false := by decide) : AE X E (.Name x pos) (wC (.ty n)) :=
  ae_c (pe_bltn hg hm hv (v := .ty n) rfl hn hd) fun _ => .ty n
theorem ae_var (i : Nat) {x : Str} (hN : X.N[i]? = some x := by rfl) (hv : Vis X.env.scope x := by first | exact Or.inl rfl | exact Or.inr (Or.inl rfl) | exact Or.inr (Or.inr rfl))
    (hd : (x == ("__debug__" : Str)) = false := by decide) (hcd : (x == ("__classdict__" : Str)) = false := by decide) : AE X E (.Name x pos) (wVar i) := by
  refine ⟨PE.imp (pe_var hN hv hd hcd) fun σ H Q ⟨F, ρ, g, S, R, q⟩ => ?_, fun ρ h Q Q' X X' hq _ q => ?_⟩
  · unfold wVar at q
    split at q
    · rename_i d e
      obtain ⟨v, h1, h2⟩ := R.2 i d e
      exact ⟨v, h1, LQ.at q S h2⟩
    · exact q.elim
  · unfold wVar at *
    split at q
    · exact hq _ _ q
    · exact q.elim
/-- two expressions, then an operator of values -/
theorem two {r : R2} {f : D → D → AH → KD → Prop} (ok : OpD X.K r f) (ha : AE X E a wa) (hb : AE X E b wb) {σ : L2.St} {H : Hp} {Q : VK} (h : tE X.K E (wOp f wa wb) σ H Q) : tOp r (tE X.K E wa) (tE X.K E wb) σ H Q := by
  obtain ⟨F, ρ, g, S, R, q⟩ := h
  refine ⟨F, ρ, g, S, R, ha.mo _ _ _ _ _ _ (fun x h1 hx => ?_) (fun _ _ z => z) q⟩
  intro F1 H1 vx e1 S1 rx
  refine ⟨F1, ρ, h1, S1, R.ext e1, hb.mo _ _ _ _ _ _ (fun y h2 hf => ?_) (fun _ _ z => LX.ext e1 z) hx⟩
  intro F2 H2 vy e2 S2 ry
  exact ok.to S2 (rx.ext e2) ry (ok.mo (fun _ _ z => LQ.ext (e1.trans e2) z) hf)
theorem mo_op {f : D → D → AH → KD → Prop} (mo : ∀ {x y h} {Q Q' : KD}, (∀ d h, Q d h → Q' d h) → f x y h Q → f x y h Q') (ma : MoE wa) (mb : MoE wb) : MoE (wOp f wa wb) := fun ρ h Q Q' X X' hq hx q =>
  ma _ _ _ _ _ _ (fun x h1 q1 => mb _ _ _ _ _ _ (fun y h2 q2 => mo hq q2) hx q1) hx q
theorem ae_bin {op : Operator} {r : R2} {f : D → D → AH → KD → Prop} (ok : OpD X.K r f) (ho : OpR X (binaryOp op) r) (ha : AE X E a wa) (hb : AE X E b wb) : AE X E (.BinOp a op b pos) (wOp f wa wb) :=
  ⟨PE.imp (pe_op ho ha.run hb.run) fun σ H Q h => two ok ha hb h, mo_op ok.mo ha.mo hb.mo⟩
theorem ae_add (m : Bool) (ha : AE X E a wa) (hb : AE X E b wb) : AE X E (.BinOp a .Add b pos) (wOp (dAdd m) wa wb) := ae_bin dAdd_ok op_addD ha hb
theorem ae_sub (ha : AE X E a wa) (hb : AE X E b wb) : AE X E (.BinOp a .Sub b pos) (wOp dSub wa wb) := ae_bin dSub_ok op_sub ha hb
theorem ae_mul (m : Bool) (ha : AE X E a wa) (hb : AE X E b wb) : AE X E (.BinOp a .Mult b pos) (wOp (dMul m) wa wb) := ae_bin (r := rMul X.K) dMul_ok op_mulD ha hb
theorem ae_div (ha : AE X E a wa) (hb : AE X E b wb) : AE X E (.BinOp a .FloorDiv b pos) (wOp dDiv wa wb) := ae_bin dDiv_ok op_divD ha hb
theorem ae_mod (ha : AE X E a wa) (hb : AE X E b wb) : AE X E (.BinOp a .Mod b pos) (wOp dMod wa wb) := ae_bin dMod_ok op_mod ha hb
theorem ae_pow (ha : AE X E a wa) (hb : AE X E b wb) : AE X E (.BinOp a .Pow b pos) (wOp dPow wa wb) := ae_bin dPow_ok op_pow ha hb
theorem ae_neg (ha : AE X E a wa) : AE X E (.UnaryOp .USub a pos) (wNeg wa) := by
  refine ⟨PE.imp (pe_un un_neg ha.run) fun σ H Q ⟨F, ρ, g, S, R, q⟩ => ?_, fun ρ h Q Q' X X' hq hx q => ?_⟩
  · refine ⟨F, ρ, g, S, R, ha.mo _ _ _ _ _ _ (fun x h1 hx => ?_) (fun _ _ z => z) q⟩
    intro F1 H1 vx e1 S1 rx
    split at hx
    · cases rx; exact ⟨_, rfl, hx F1 H1 _ e1 S1 (.int _)⟩
    · exact hx.elim
  · refine ha.mo _ _ _ _ _ _ (fun x h1 q1 => ?_) hx q
    split at q1
    · exact hq _ _ q1
    · exact q1.elim
theorem ae_cmp {op : CmpOp} {r : R2} {f : D → D → AH → KD → Prop} (ok : OpD X.K r f) (ho : OpR X (compareOp op) r) (ha : AE X E a wa) (hb : AE X E b wb) (hm : behindInMarks op b = false := by first | exact nobehind _ (by decide) (by decide) | rfl) : AE X E (.Compare a [op] [b] pos) (wOp f wa wb) :=
  ⟨PE.imp (pe_cmpR ho ha.run hb.run hm) fun σ H Q h => two ok ha hb h, mo_op ok.mo ha.mo hb.mo⟩
theorem ae_lt (ha : AE X E a wa) (hb : AE X E b wb) : AE X E (.Compare a [.Lt] [b] pos) (wOp (dCmpI fun i j => decide (i < j)) wa wb) := ae_cmp dCmpI_ok op_lt ha hb
theorem ae_le (ha : AE X E a wa) (hb : AE X E b wb) : AE X E (.Compare a [.LtE] [b] pos) (wOp (dCmpI fun i j => decide (i ≤ j)) wa wb) := ae_cmp dCmpI_ok op_le ha hb
theorem ae_gt (ha : AE X E a wa) (hb : AE X E b wb) : AE X E (.Compare a [.Gt] [b] pos) (wOp (dCmpI fun i j => decide (j < i)) wa wb) := ae_cmp dCmpI_ok op_gt ha hb
theorem ae_ge (ha : AE X E a wa) (hb : AE X E b wb) : AE X E (.Compare a [.GtE] [b] pos) (wOp (dCmpI fun i j => decide (j ≤ i)) wa wb) := ae_cmp dCmpI_ok op_ge ha hb
theorem ae_eq (c : Cg gz X E k) (ha : AE X E a wa) (hb : AE X E b wb) : AE X E (.Compare a [.Eq] [b] pos) (wOp (dEq fun b => b) wa wb) := ae_cmp dEq_ok (op_eqF c.room.units) ha hb
theorem ae_ne (c : Cg gz X E k) (ha : AE X E a wa) (hb : AE X E b wb) : AE X E (.Compare a [.NotEq] [b] pos) (wOp (dEq fun b => !b) wa wb) := ae_cmp dEq_ok (op_neF c.room.units) ha hb
theorem ae_is (ha : AE X E a wa) (hb : AE X E b wb) : AE X E (.Compare a [.Is] [b] pos) (wOp (dIsN fun b => b) wa wb) := ae_cmp dIsN_ok op_isF ha hb
theorem ae_isnot (ha : AE X E a wa) (hb : AE X E b wb) : AE X E (.Compare a [.IsNot] [b] pos) (wOp (dIsN fun b => !b) wa wb) := ae_cmp dIsN_ok op_notF ha hb
theorem mo_chain {f g : D → D → AH → KD → Prop} (mf : ∀ {x y h} {Q Q' : KD}, (∀ d h, Q d h → Q' d h) → f x y h Q → f x y h Q') (mg : ∀ {x y h} {Q Q' : KD}, (∀ d h, Q d h → Q' d h) → g x y h Q → g x y h Q') (ma : MoE wa) (mb : MoE wb) (mc : MoE wc) : MoE (wChain f g wa wb wc) := fun ρ h Q Q' X X' hq hx q =>
  ma _ _ _ _ _ _ (fun x h1 q1 => mb _ _ _ _ _ _ (fun y h2 q2 => mf (fun z h3 q3 => by
    split at q3
    · split at q3
      · rename_i c; simp only [c, if_true]; exact mc _ _ _ _ _ _ (fun u h4 q4 => mg hq q4) hx q3
      · rename_i c; simp only [if_neg c]; exact hq _ _ q3
    · exact q3.elim) q2) hx q1) hx q
theorem ae_chain {op op' : CmpOp} {r r' : R2} {f g : D → D → AH → KD → Prop} {c : Expr} (ok : OpD X.K r f) (ok' : OpD X.K r' g) (ho : OpR X (compareOp op) r) (ho' : OpR X (compareOp op') r') (ha : AE X E a wa) (hb : AE X E b wb) (hc : AE X E c wc)
    (hp : PE X (.Compare a [op, op'] [b, c] pos) (tChain r r' (tE X.K E wa) (tE X.K E wb) (tE X.K E wc))) : AE X E (.Compare a [op, op'] [b, c] pos) (wChain f g wa wb wc) := by
  refine ⟨PE.imp hp fun σ H Q ⟨F, ρ, g0, S, R, q⟩ => ?_, mo_chain ok.mo ok'.mo ha.mo hb.mo hc.mo⟩
  refine ⟨F, ρ, g0, S, R, ha.mo _ _ _ _ _ _ (fun x h1 hx => ?_) (fun _ _ z => z) q⟩
  intro F1 H1 vx e1 S1 rx
  refine ⟨F1, ρ, h1, S1, R.ext e1, hb.mo _ _ _ _ _ _ (fun y h2 hf => ?_) (fun _ _ z => LX.ext e1 z) hx⟩
  intro F2 H2 vy e2 S2 ry
  refine ok.to S2 (rx.ext e2) ry (ok.mo (fun z h3 hz => ?_) hf)
  intro F3 H3 v3 e3 S3 r3
  split at hz
  · rename_i kk
    cases r3
    refine ⟨kk, rfl, ?_⟩
    split at hz
    · rename_i ck
      rw [if_pos ck]
      refine ⟨F3, ρ, h3, S3, R.ext (e1.trans (e2.trans e3)), hc.mo _ _ _ _ _ _ (fun u h4 hg => ?_) (fun _ _ z => LX.ext (e1.trans (e2.trans e3)) z) hz⟩
      intro F4 H4 vu e4 S4 ru
      exact ok'.to S4 (ry.ext (e3.trans e4)) ru (ok'.mo (fun _ _ z => LQ.ext (e1.trans (e2.trans (e3.trans e4))) z) hg)
    · rename_i ck
      rw [if_neg ck]
      exact hz F3 H3 _ (e1.trans (e2.trans e3)) S3 (.bl _)
  · exact hz.elim

/-! ### tests -/
theorem at_val (ha : AE X E a wa) (he : ∀ whole, isTrue a X.env whole = (do let v ← whole; standAt a.pos; holding [v] (truthy v)) := by intro _; rfl) : AT X E a (wTest wa) := by
  refine ⟨PT.imp (pt_val ha.run he) fun σ H Q ⟨F, ρ, g, S, R, q⟩ => ?_, fun ρ h Q Q' X X' hq hx q => ?_⟩
  · refine ⟨F, ρ, g, S, R, ha.mo _ _ _ _ _ _ (fun x h1 hx => ?_) (fun _ _ z => z) q⟩
    intro F1 H1 vx e1 S1 rx
    split at hx
    · cases rx; exact ⟨_, rfl, hx F1 H1 e1 S1⟩
    · exact hx.elim
  · refine ha.mo _ _ _ _ _ _ (fun x h1 q1 => ?_) hx q
    split at q1
    · exact hq _ _ q1
    · exact q1.elim
theorem at_cmp {op : CmpOp} {r : R2} {f : D → D → AH → KD → Prop} (ok : OpD X.K r f) (ho : OpR X (compareOp op) r) (ha : AE X E a wa) (hb : AE X E b wb) (hm : behindInMarks op b = false := by first | exact nobehind _ (by decide) (by decide) | rfl) : AT X E (.Compare a [op] [b] pos) (wTest (wOp f wa wb)) := by
  have M : MoE (wOp f wa wb) := mo_op ok.mo ha.mo hb.mo
  refine ⟨PT.imp (pt_cmpR ho ha.run hb.run hm) fun σ H Q ⟨F, ρ, g, S, R, q⟩ => ?_, fun ρ h Q Q' X X' hq hx q => ?_⟩
  · refine two ok ha hb ⟨F, ρ, g, S, R, M _ _ _ _ _ _ (fun x h1 hx => ?_) (fun _ _ z => z) q⟩
    intro F1 H1 vx e1 S1 rx
    split at hx
    · cases rx; exact ⟨_, rfl, hx F1 H1 e1 S1⟩
    · exact hx.elim
  · refine M _ _ _ _ _ _ (fun x h1 q1 => ?_) hx q
    split at q1
    · exact hq _ _ q1
    · exact q1.elim
theorem at_lt (ha : AE X E a wa) (hb : AE X E b wb) : AT X E (.Compare a [.Lt] [b] pos) (wTest (wOp (dCmpI fun i j => decide (i < j)) wa wb)) := at_cmp dCmpI_ok op_lt ha hb
theorem at_le (ha : AE X E a wa) (hb : AE X E b wb) : AT X E (.Compare a [.LtE] [b] pos) (wTest (wOp (dCmpI fun i j => decide (i ≤ j)) wa wb)) := at_cmp dCmpI_ok op_le ha hb
theorem at_gt (ha : AE X E a wa) (hb : AE X E b wb) : AT X E (.Compare a [.Gt] [b] pos) (wTest (wOp (dCmpI fun i j => decide (j < i)) wa wb)) := at_cmp dCmpI_ok op_gt ha hb
theorem at_ge (ha : AE X E a wa) (hb : AE X E b wb) : AT X E (.Compare a [.GtE] [b] pos) (wTest (wOp (dCmpI fun i j => decide (j ≤ i)) wa wb)) := at_cmp dCmpI_ok op_ge ha hb
theorem at_eq (c : Cg gz X E k) (ha : AE X E a wa) (hb : AE X E b wb) : AT X E (.Compare a [.Eq] [b] pos) (wTest (wOp (dEq fun b => b) wa wb)) := at_cmp dEq_ok (op_eqF c.room.units) ha hb
theorem at_ne (c : Cg gz X E k) (ha : AE X E a wa) (hb : AE X E b wb) : AT X E (.Compare a [.NotEq] [b] pos) (wTest (wOp (dEq fun b => !b) wa wb)) := at_cmp dEq_ok (op_neF c.room.units) ha hb
theorem at_is (ha : AE X E a wa) (hb : AE X E b wb) : AT X E (.Compare a [.Is] [b] pos) (wTest (wOp (dIsN fun b => b) wa wb)) := at_cmp dIsN_ok op_isF ha hb
theorem at_isnot (ha : AE X E a wa) (hb : AE X E b wb) : AT X E (.Compare a [.IsNot] [b] pos) (wTest (wOp (dIsN fun b => !b) wa wb)) := at_cmp dIsN_ok op_notF ha hb
theorem Sim.truD {K : PySem.W.Frag} {F : Hp} {h : AH} {H : Hp} {d : D} {v : V} {c : Bool} (S : Sim K F h H) (r : Rep K F d v) (q : truD h d = some c) : TruV K v H c := by
  cases r with
  | ref a =>
    cases e : h a with
    | none => simp [DL.truD, cur, e] at q
    | some o =>
      obtain ⟨_, u, hu, ro⟩ := S.ob _ _ e
      cases o with
      | lst xs =>
        obtain ⟨vs, rfl, rs⟩ := ro
        simp only [DL.truD, cur, e, Option.some.injEq] at q
        refine .inl ⟨vs, .of hu, ?_⟩
        rw [← q]; cases rs <;> rfl
      | dK xs =>
        obtain ⟨vs, rfl, rs⟩ := ro
        simp only [DL.truD, cur, e, Option.some.injEq] at q
        refine .inr (.inr ⟨vs, hu, ?_⟩)
        rw [← q]; cases rs <;> rfl
      | dT _ => simp [DL.truD, cur, e] at q
      | ins _ _ => simp [DL.truD, cur, e] at q
      | lck _ => simp [DL.truD, cur, e] at q
  | non => simp only [DL.truD, cur, Option.some.injEq] at q; exact q.symm
  | bl b => simp only [DL.truD, cur, Option.some.injEq] at q; exact q.symm
  | int i => simp only [DL.truD, cur, Option.some.injEq] at q; exact q.symm
  | str s => simp [DL.truD, cur] at q
  | ty n => simp [DL.truD, cur] at q
  | lk _ _ => simp [DL.truD, cur] at q
  | ob _ _ => simp [DL.truD, cur] at q
  | @tup a xs vs h r =>
    simp only [DL.truD, cur, Option.some.injEq] at q
    refine .inr (.inl ⟨vs, sqt_of S.fz h, ?_⟩)
    rw [← q]; cases r <;> rfl
  | @tpl a ob xs vs h hd r =>
    simp only [DL.truD, cur, Option.some.injEq] at q
    refine .inr (.inl ⟨vs, sqt_of S.fz (.inl (.inr ⟨_, h⟩)), ?_⟩)
    rw [← q]; cases r <;> rfl
  | @lst a xs vs h r =>
    simp only [DL.truD, cur, Option.some.injEq] at q
    refine .inl ⟨vs, .of (S.fz _ _ h), ?_⟩
    rw [← q]; cases r <;> rfl
  | @dK a xs vs h r =>
    simp only [DL.truD, cur, Option.some.injEq] at q
    refine .inr (.inr ⟨vs, S.fz _ _ h, ?_⟩)
    rw [← q]; cases r <;> rfl
  | dT _ _ => simp [DL.truD, cur] at q
theorem at_truth (ha : AE X E a wa) (he : ∀ whole, isTrue a X.env whole = (do let v ← whole; standAt a.pos; holding [v] (truthy v)) := by intro _; rfl) : AT X E a (wTruth wa) := by
  refine ⟨PT.imp (pt_truth ha.run he) fun σ H Q ⟨F, ρ, g, S, R, q⟩ => ?_, fun ρ h Q Q' X X' hq hx q => ?_⟩
  · refine ⟨F, ρ, g, S, R, ha.mo _ _ _ _ _ _ (fun x h1 hx => ?_) (fun _ _ z => z) q⟩
    intro F1 H1 vx e1 S1 rx
    obtain ⟨c, hc, hx⟩ := hx
    exact ⟨c, S1.truD rx hc, hx F1 H1 e1 S1⟩
  · exact ha.mo _ _ _ _ _ _ (fun x h1 ⟨c, hc, q1⟩ => ⟨c, hc, hq _ _ q1⟩) hx q
theorem mo_and {a b : WT} (ma : MoT a) (mb : MoT b) : MoT (wAnd a b) := fun ρ h Q Q' X X' hq hx q => ma _ _ _ _ _ _ (fun c h1 q1 => by
  split at q1
  · rename_i e; rw [if_pos e]; exact mb _ _ _ _ _ _ hq hx q1
  · rename_i e; rw [if_neg e]; exact hq _ _ q1) hx q
theorem mo_or {a b : WT} (ma : MoT a) (mb : MoT b) : MoT (wOr a b) := fun ρ h Q Q' X X' hq hx q => ma _ _ _ _ _ _ (fun c h1 q1 => by
  split at q1
  · rename_i e; rw [if_pos e]; exact hq _ _ q1
  · rename_i e; rw [if_neg e]; exact mb _ _ _ _ _ _ hq hx q1) hx q
theorem AW.at (h : AW X E a ta) : AT X E a ta := ⟨h.run.pt, h.mo⟩
theorem aw_and1 (ha : AT X E a ta) : AW X E (.BoolOp .And [a] pos) ta := ⟨pw_and1 ha.run, ha.mo⟩
theorem aw_or1 (ha : AT X E a ta) : AW X E (.BoolOp .Or [a] pos) ta := ⟨pw_or1 ha.run, ha.mo⟩
theorem aw_and {rest : List Expr} (ha : AT X E a ta) (hb : AW X E (.BoolOp .And (b :: rest) pos) tb) : AW X E (.BoolOp .And (a :: b :: rest) pos) (wAnd ta tb) := by
  refine ⟨PW.imp (pw_and ha.run hb.run) fun σ H Q ⟨F, ρ, g, S, R, q⟩ => ?_, mo_and ha.mo hb.mo⟩
  refine ⟨F, ρ, g, S, R, ha.mo _ _ _ _ _ _ (fun x h1 hx => ?_) (fun _ _ z => z) q⟩
  intro F1 H1 e1 S1
  split at hx
  · rename_i e; rw [if_pos e]
    exact ⟨F1, ρ, h1, S1, R.ext e1, hb.mo _ _ _ _ _ _ (fun _ _ z => LB.ext e1 z) (fun _ _ z => LX.ext e1 z) hx⟩
  · rename_i e; rw [if_neg e]
    exact hx F1 H1 e1 S1
theorem aw_or {rest : List Expr} (ha : AT X E a ta) (hb : AW X E (.BoolOp .Or (b :: rest) pos) tb) : AW X E (.BoolOp .Or (a :: b :: rest) pos) (wOr ta tb) := by
  refine ⟨PW.imp (pw_or ha.run hb.run) fun σ H Q ⟨F, ρ, g, S, R, q⟩ => ?_, mo_or ha.mo hb.mo⟩
  refine ⟨F, ρ, g, S, R, ha.mo _ _ _ _ _ _ (fun x h1 hx => ?_) (fun _ _ z => z) q⟩
  intro F1 H1 e1 S1
  split at hx
  · rename_i e; rw [if_pos e]
    exact hx F1 H1 e1 S1
  · rename_i e; rw [if_neg e]
    exact ⟨F1, ρ, h1, S1, R.ext e1, hb.mo _ _ _ _ _ _ (fun _ _ z => LB.ext e1 z) (fun _ _ z => LX.ext e1 z) hx⟩
theorem at_not (ha : AT X E a ta) : AT X E (.UnaryOp .Not a pos) (wNot ta) := by
  refine ⟨PT.imp (pt_not ha.run) fun σ H Q ⟨F, ρ, g, S, R, q⟩ => ?_, fun ρ h Q Q' X X' hq hx q => ha.mo _ _ _ _ _ _ (fun c h1 q1 => hq _ _ q1) hx q⟩
  exact ⟨F, ρ, g, S, R, ha.mo _ _ _ _ _ _ (fun x h1 hx F1 H1 e1 S1 => hx F1 H1 e1 S1) (fun _ _ z => z) q⟩
/-! ### and, or, not as values -/
theorem ae_one {op} (ha : AE X E a wa) : AE X E (.BoolOp op [a] pos) wa := ⟨pe_one ha.run, ha.mo⟩
theorem ae_and {rest : List Expr} (ha : AE X E a wa) (hb : AE X E (.BoolOp .And (b :: rest) pos) wb) : AE X E (.BoolOp .And (a :: b :: rest) pos) (wAndV wa wb) := by
  refine ⟨PE.imp (pe_and ha.run hb.run) fun σ H Q ⟨F, ρ, g, S, R, q⟩ => ?_, fun ρ h Q Q' X X' hq hx q => ?_⟩
  · refine ⟨F, ρ, g, S, R, ha.mo _ _ _ _ _ _ (fun x h1 hx => ?_) (fun _ _ z => z) q⟩
    intro F1 H1 vx e1 S1 rx
    split at hx
    · cases rx
      refine ⟨_, rfl, ?_⟩
      split at hx
      · rename_i e; rw [if_pos e]
        exact ⟨F1, ρ, h1, S1, R.ext e1, hb.mo _ _ _ _ _ _ (fun _ _ z => LQ.ext e1 z) (fun _ _ z => LX.ext e1 z) hx⟩
      · rename_i e; rw [if_neg e]
        exact hx F1 H1 _ e1 S1 (.bl _)
    · exact hx.elim
  · refine ha.mo _ _ _ _ _ _ (fun x h1 q1 => ?_) hx q
    split at q1
    · split at q1
      · rename_i e; simp only [if_pos e]; exact hb.mo _ _ _ _ _ _ hq hx q1
      · rename_i e; simp only [if_neg e]; exact hq _ _ q1
    · exact q1.elim
theorem ae_or {rest : List Expr} (ha : AE X E a wa) (hb : AE X E (.BoolOp .Or (b :: rest) pos) wb) : AE X E (.BoolOp .Or (a :: b :: rest) pos) (wOrV wa wb) := by
  refine ⟨PE.imp (pe_or ha.run hb.run) fun σ H Q ⟨F, ρ, g, S, R, q⟩ => ?_, fun ρ h Q Q' X X' hq hx q => ?_⟩
  · refine ⟨F, ρ, g, S, R, ha.mo _ _ _ _ _ _ (fun x h1 hx => ?_) (fun _ _ z => z) q⟩
    intro F1 H1 vx e1 S1 rx
    split at hx
    · cases rx
      refine ⟨_, rfl, ?_⟩
      split at hx
      · rename_i e; rw [if_pos e]
        exact hx F1 H1 _ e1 S1 (.bl _)
      · rename_i e; rw [if_neg e]
        exact ⟨F1, ρ, h1, S1, R.ext e1, hb.mo _ _ _ _ _ _ (fun _ _ z => LQ.ext e1 z) (fun _ _ z => LX.ext e1 z) hx⟩
    · exact hx.elim
  · refine ha.mo _ _ _ _ _ _ (fun x h1 q1 => ?_) hx q
    split at q1
    · split at q1
      · rename_i e; simp only [if_pos e]; exact hq _ _ q1
      · rename_i e; simp only [if_neg e]; exact hb.mo _ _ _ _ _ _ hq hx q1
    · exact q1.elim
theorem ae_not (ha : AE X E a wa) : AE X E (.UnaryOp .Not a pos) (wNotV wa) := by
  refine ⟨PE.imp (pe_not ha.run) fun σ H Q ⟨F, ρ, g, S, R, q⟩ => ?_, fun ρ h Q Q' X X' hq hx q => ?_⟩
  · refine ⟨F, ρ, g, S, R, ha.mo _ _ _ _ _ _ (fun x h1 hx => ?_) (fun _ _ z => z) q⟩
    intro F1 H1 vx e1 S1 rx
    split at hx
    · cases rx; exact ⟨_, rfl, hx F1 H1 _ e1 S1 (.bl _)⟩
    · exact hx.elim
  · refine ha.mo _ _ _ _ _ _ (fun x h1 q1 => ?_) hx q
    split at q1
    · exact hq _ _ q1
    · exact q1.elim
theorem ae_if {c : Expr} (hc : AT X E c ta) (ha : AE X E a wa) (hb : AE X E b wb) : AE X E (.IfExp c a b pos) (wIf ta wa wb) := by
  refine ⟨PE.imp (pe_ifExp hc.run ha.run hb.run) fun σ H Q ⟨F, ρ, g, S, R, q⟩ => ?_, fun ρ h Q Q' X X' hq hx q => hc.mo _ _ _ _ _ _ (fun c h1 q1 => ?_) hx q⟩
  · refine ⟨F, ρ, g, S, R, hc.mo _ _ _ _ _ _ (fun x h1 hx => ?_) (fun _ _ z => z) q⟩
    intro F1 H1 e1 S1
    split at hx
    · rename_i e; rw [if_pos e]
      exact ⟨F1, ρ, h1, S1, R.ext e1, ha.mo _ _ _ _ _ _ (fun _ _ z => LQ.ext e1 z) (fun _ _ z => LX.ext e1 z) hx⟩
    · rename_i e; rw [if_neg e]
      exact ⟨F1, ρ, h1, S1, R.ext e1, hb.mo _ _ _ _ _ _ (fun _ _ z => LQ.ext e1 z) (fun _ _ z => LX.ext e1 z) hx⟩
  · split at q1
    · rename_i e; rw [if_pos e]; exact ha.mo _ _ _ _ _ _ hq hx q1
    · rename_i e; rw [if_neg e]; exact hb.mo _ _ _ _ _ _ hq hx q1
/-! ### argument lists, displays -/
theorem aa_nil : AA X E [] wNil := ⟨PA.imp pa_nil fun σ H Q ⟨F, ρ, g, S, R, q⟩ => q F H [] (.refl F) S .nil, fun ρ h Q Q' X X' hq hx q => hq _ _ q⟩
theorem aa_cons (ha : AE X E e wa) (hr : AA X E es wl) (hs : starEach (e :: es) X.env = (false, eval e X.env) :: starEach es X.env := by rfl) : AA X E (e :: es) (wCons wa wl) := by
  refine ⟨PA.imp (pa_cons ha.run hr.run hs) fun σ H Q ⟨F, ρ, g, S, R, q⟩ => ?_, fun ρ h Q Q' X X' hq hx q => ha.mo _ _ _ _ _ _ (fun x h1 q1 => hr.mo _ _ _ _ _ _ (fun xs h2 q2 => hq _ _ q2) hx q1) hx q⟩
  refine ⟨F, ρ, g, S, R, ha.mo _ _ _ _ _ _ (fun x h1 hx => ?_) (fun _ _ z => z) q⟩
  intro F1 H1 vx e1 S1 rx
  refine ⟨F1, ρ, h1, S1, R.ext e1, hr.mo _ _ _ _ _ _ (fun xs h2 h3 => ?_) (fun _ _ z => LX.ext e1 z) hx⟩
  intro F2 H2 vs e2 S2 rs
  exact h3 F2 H2 _ (e1.trans e2) S2 (.cons (rx.ext e2) rs)
theorem ae_tup {x1} (h : AA X E es wl) : AE X E (.Tuple es x1 pos) (wTup wl) := by
  refine ⟨PE.imp (pe_tup h.run) fun σ H Q ⟨F, ρ, g, S, R, q⟩ => ?_, fun ρ h0 Q Q' X X' hq hx q => h.mo _ _ _ _ _ _ (fun x h1 q1 => ⟨q1.1, hq _ _ q1.2⟩) hx q⟩
  refine ⟨F, ρ, g, S, R, h.mo _ _ _ _ _ _ (fun xs h1 hx => ?_) (fun _ _ z => z) q⟩
  intro F1 H1 vs e1 S1 rs
  exact ⟨by rw [← rs.length]; exact hx.1, S1.newT rs (LQ.ext e1 hx.2)⟩
theorem ae_lst (m : Bool) (h : AA X E es wl) : AE X E (.List es pos) (wLst m wl) := by
  refine ⟨PE.imp (pe_lst h.run) fun σ H Q ⟨F, ρ, g, S, R, q⟩ => ?_, fun ρ h0 Q Q' X X' hq hx q => h.mo _ _ _ _ _ _ (fun x h1 q1 => ⟨q1.1, newL_mo hq q1.2⟩) hx q⟩
  refine ⟨F, ρ, g, S, R, h.mo _ _ _ _ _ _ (fun xs h1 hx => ?_) (fun _ _ z => z) q⟩
  intro F1 H1 vs e1 S1 rs
  exact ⟨by rw [← rs.length]; exact hx.1, S1.newL rs (newL_mo (fun _ _ z => LQ.ext e1 z) hx.2)⟩

/-! ### calls -/
theorem ae_call {n j : Nat} {gg : List D → List D → List D} {S : FSpec} {x : Str} {p : Pos} (c : Cg gz X E k) (C : Cal gy X.prog X.w X.K X.mg X.base x j n [] gg S) (hj : j ≤ k) (hz : gy = true → gz = true) (ha : AA X E (e :: es) wl)
    (hg : Gl X x := by rfl) (hdb : (x == ("__debug__" : Str)) = false := by decide) (he : starEach (e :: es) X.env = (false, eval e X.env) :: starEach es X.env := by rfl)
    (hpl : (backTo pos (starEach es X.env)).any (·.1) = false := by rfl) : AE X E (.Call (.Name x p) (e :: es) [] pos) (wCallP S n gg wl) := by
  obtain ⟨f, fd, ps, hm, hk, G, B⟩ := C.ex
  refine ⟨⟨fun pins s σ H Q I hq => ?_⟩, fun ρ h0 Q Q' X X' hq hx q => ha.mo _ _ _ _ _ _ (fun x h1 q1 => ⟨q1.1, G.mo _ _ _ _ _ _ hq hx q1.2⟩) hx q⟩
  obtain ⟨F, ρ, g, S0, R, q⟩ := hq
  refine wpAny_Call_Name_kw (ld_glob I hg hm ?_ hdb)
  refine PySem.W.callWith_K (h₀ := X.base) I.ok.mod.kin hk
    (thn (ha.run.run pos pins s σ H (fun vs H1 => ∃ F1 h1 ds, Sim X.K F1 h1 H1 ∧ Reps X.K F1 ds vs ∧ ds.length = n ∧ S (gg ds []) h1 (LQ X.K F1 Q) (LX X.K F1 E)) I
      ⟨F, ρ, g, S0, R, ha.mo _ _ _ _ _ _ (fun ds h1 q1 F1 H1 vs e1 S1 rs => ⟨F1, h1, ds, S1, rs, q1.1, G.mo _ _ _ _ _ _ (fun _ _ z => LQ.ext e1 z) (fun _ _ z => LX.ext e1 z) q1.2⟩) (fun _ _ z => z) q⟩) fun us s1 hh => ?_) he hpl
  obtain ⟨vs, H1, I1, r1, F1, h1, ds, S1, rs, l, q1⟩ := hh
  refine ⟨I1.kIn, ?_⟩
  obtain ⟨xs, ts, rx, rt, bt⟩ := B.to s1 F1 ds [] vs [] us [] I1.kIn l rfl rs r1 .nil .nil
  exact wpAny_call (codeAny_mono (run_g (c.mono hj) G hz I1 bt rt ⟨F1, _, h1, S1, rx, q1⟩) fun r s' hr => by
    match r, hr with
    | .error _, hr => exact hr
    | .ok (.ret _), hr => exact hr)

/-- a built-in by values -/
structure CaD (X : Cx) (f : Value) (r : List D → AH → KD → Prop) : Prop where
  ex : ∃ rv, CallR X f rv ∧ ∀ {F h H ds vs} {Q : VK}, Sim X.K F h H → Reps X.K F ds vs → r ds h (LQ X.K F Q) → rv vs H Q
  mo : ∀ {ds h} {Q Q' : KD}, (∀ d h, Q d h → Q' d h) → r ds h Q → r ds h Q'
theorem ae_b {id : String} {x : Str} {p : Pos} {r : List D → AH → KD → Prop} (C : CaD X (.builtin id) r) (hm : X.mg x = none) (hv : bootBuiltins x = some (.builtin id)) (ha : AA X E (e :: es) wl)
    (hg : Gl X x := by rfl) (hn : x ≠ "__name__" := by decide) (hdb : (x == ("__debug__" : Str)) = false := by decide)
    (he : starEach (e :: es) X.env = (false, eval e X.env) :: starEach es X.env := by rfl) (hpl : (backTo pos (starEach es X.env)).any (·.1) = false := by rfl) : AE X E (.Call (.Name x p) (e :: es) [] pos) (wB r wl) := by
  obtain ⟨rv, hc, to⟩ := C.ex
  refine ⟨PE.imp (pe_callB hc hg hm hv ha.run hn hdb he hpl) fun σ H Q ⟨F, ρ, g, S, R, q⟩ => ?_, fun ρ h0 Q Q' X X' hq hx q => ha.mo _ _ _ _ _ _ (fun x h1 q1 => C.mo hq q1) hx q⟩
  exact ⟨F, ρ, g, S, R, ha.mo _ _ _ _ _ _ (fun ds h1 q1 F1 H1 vs e1 S1 rs => to S1 rs (C.mo (fun _ _ z => LQ.ext e1 z) q1)) (fun _ _ z => z) q⟩
theorem ae_bt {T : String} {x : Str} {p : Pos} {r : List D → AH → KD → Prop} (C : CaD X (.type T) r) (hm : X.mg x = none) (hv : bootBuiltins x = some (.type T)) (ha : AA X E (e :: es) wl)
    (hg : Gl X x := by rfl) (hn : x ≠ "__name__" := by decide) (hdb : (x == ("__debug__" : Str)) = false := by decide)
    (he : starEach (e :: es) X.env = (false, eval e X.env) :: starEach es X.env := by rfl) (hpl : (backTo pos (starEach es X.env)).any (·.1) = false := by rfl) : AE X E (.Call (.Name x p) (e :: es) [] pos) (wB r wl) := by
  obtain ⟨rv, hc, to⟩ := C.ex
  refine ⟨PE.imp (pe_callTy hc hg hm hv ha.run hn hdb he hpl) fun σ H Q ⟨F, ρ, g, S, R, q⟩ => ?_, fun ρ h0 Q Q' X X' hq hx q => ha.mo _ _ _ _ _ _ (fun x h1 q1 => C.mo hq q1) hx q⟩
  exact ⟨F, ρ, g, S, R, ha.mo _ _ _ _ _ _ (fun ds h1 q1 F1 H1 vs e1 S1 rs => to S1 rs (C.mo (fun _ _ z => LQ.ext e1 z) q1)) (fun _ _ z => z) q⟩
end
end DL
namespace DL
open PySem PySem.Spec L2

/-! ### statements over data -/
def wSkip : WS := fun D ρ h => D.nx ρ h
def wBreak : WS := fun D ρ h => D.bk ρ h
def wCont : WS := fun D ρ h => D.ct ρ h
def wSeq (a b : WS) : WS := fun D ρ h => a { D with nx := b D } ρ h
def wExpr (a : WE) : WS := fun D ρ h => a ρ h (fun _ h1 => D.nx ρ h1) D.ex
def wRet (a : WE) : WS := fun D ρ h => a ρ h D.rt D.ex
def wRetN : WS := fun D _ h => D.rt .non h
def wIfS (t : WT) (a b : WS) : WS := fun D ρ h => t ρ h (fun c h1 => if c = true then a D ρ h1 else b D ρ h1) D.ex
def wNever : WS := fun _ _ _ => False
abbrev WG := D → EnvD → AH → (EnvD → AH → Prop) → KX → Prop
abbrev WGs := List D → EnvD → AH → (EnvD → AH → Prop) → KX → Prop
def gN (i : Nat) : WG := fun d ρ h Q _ => Q (ρ.set i (some d)) h
def gsNil : WGs := fun ds ρ h Q _ => ds = [] ∧ Q ρ h
def gsCons (g : WG) (r : WGs) : WGs := fun ds ρ h Q X => ∃ d ds', ds = d :: ds' ∧ g d ρ h (fun ρ1 h1 => r ds' ρ1 h1 Q X) X
def gT (n : Nat) (r : WGs) : WG := fun d ρ h Q X => ∃ xs, d = .tup xs ∧ xs.length = n ∧ r xs ρ h Q X
def wAsg (a : WE) (g : WG) : WS := fun D ρ h => a ρ h (fun x h1 => g x ρ h1 D.nx D.ex) D.ex
def wPar (i j : Nat) (a : WA) : WS := fun D ρ h => a ρ h (fun ds h1 => ∃ x y, ds = [x, y] ∧ D.nx ((ρ.set i (some x)).set j (some y)) h1) D.ex
def wAug (i : Nat) (a : WE) (f : D → D → AH → KD → Prop) : WS := fun D ρ h => ∃ x, ρ[i]? = some (some x) ∧ a ρ h (fun y h1 => f x y h1 fun z h2 => D.nx (ρ.set i (some z)) h2) D.ex
def MoG (g : WG) : Prop := ∀ d ρ h Q Q' X X', (∀ ρ h, Q ρ h → Q' ρ h) → (∀ x h, X x h → X' x h) → g d ρ h Q X → g d ρ h Q' X'
def MoGs (g : WGs) : Prop := ∀ d ρ h Q Q' X X', (∀ ρ h, Q ρ h → Q' ρ h) → (∀ x h, X x h → X' x h) → g d ρ h Q X → g d ρ h Q' X'
def tG (K : PySem.W.Frag) (E : XK) (g : WG) : TG := fun v σ H Q => ∃ F ρ h d, Sim K F h H ∧ EnvR K F ρ σ ∧ Rep K F d v ∧ g d ρ h (LS K F Q) (LX K F E)
def tGs (K : PySem.W.Frag) (E : XK) (g : WGs) : TGs := fun v σ H Q => ∃ F ρ h d, Sim K F h H ∧ EnvR K F ρ σ ∧ Reps K F d v ∧ g d ρ h (LS K F Q) (LX K F E)
structure AG (X : Cx) (E : XK) (e : Expr) (g : WG) : Prop where
  run : PG X e (tG X.K E g)
  mo : MoG g
structure AGs (X : Cx) (E : XK) (es : List Expr) (g : WGs) : Prop where
  run : PGs X es (tGs X.K E g)
  mo : MoGs g
theorem PG.imp {X : Cx} {e : Expr} {t t' : TG} (p : PG X e t) (h : ∀ v σ H Q, t' v σ H Q → t v σ H Q) : PG X e t' := ⟨fun pins s σ H v u Q I r q => p.run pins s σ H v u Q I r (h _ _ _ _ q)⟩
theorem PGs.imp {X : Cx} {e : List Expr} {t t' : TGs} (p : PGs X e t) (h : ∀ v σ H Q, t' v σ H Q → t v σ H Q) : PGs X e t' := ⟨fun pins s σ H v u Q I r q => p.run pins s σ H v u Q I r (h _ _ _ _ q)⟩

section
variable {X : Cx} {E : XK} {k : Nat} {a b e : Expr} {es : List Expr} {wa wb wc : WE} {ta : WT} {wl : WA} {pos : Pos} {st : Stmt} {rest : List Stmt} {s1 s2 : WS}
theorem Le.nx {D D' : EndsD} (l : D.Le D') (q : ∀ ρ h, D.nx ρ h → D'.nx ρ h) : D.Le D' := ⟨q, l.rt, l.bk, l.ct, l.ex⟩
theorem ass_nil : ASs X E [] wSkip := ⟨PSs.imp pss_nil fun D σ H ⟨F, ρ, h, S, R, q⟩ => q F H σ (.refl F) S R, fun D D' ρ h l q => l.nx _ _ q⟩
theorem mo_seq (h1 : MoS s1) (h2 : MoS s2) : MoS (wSeq s1 s2) := fun D D' ρ h l q => h1 { D with nx := s2 D } { D' with nx := s2 D' } _ _ ⟨fun ρ h z => h2 _ _ _ _ l z, l.rt, l.bk, l.ct, l.ex⟩ q
theorem ass_cons (h1 : AS X E st s1) (h2 : ASs X E rest s2) : ASs X E (st :: rest) (wSeq s1 s2) := by
  refine ⟨PSs.imp (pss_cons h1.run h2.run) fun D σ H ⟨F, ρ, h, S, R, q⟩ => ?_, mo_seq h1.mo h2.mo⟩
  refine ⟨F, ρ, h, S, R, h1.mo { LD X.K F D E with nx := s2 (LD X.K F D E) } _ _ _ ⟨fun ρ1 g1 z => ?_, fun _ _ z => z, fun _ _ z => z, fun _ _ z => z, fun _ _ z => z⟩ q⟩
  intro F1 H1 σ1 e1 S1 R1
  exact ⟨F1, ρ1, g1, S1, R1, h2.mo _ _ _ _ (LD.ext e1) z⟩
theorem ass_one (h1 : AS X E st s1) : ASs X E [st] s1 := ⟨PSs.imp (pss_one h1.run) fun D σ H q => q, h1.mo⟩
theorem as_pass : AS X E (.Pass pos) wSkip := ⟨PS.imp ps_pass fun D σ H ⟨F, ρ, h, S, R, q⟩ => q F H σ (.refl F) S R, fun D D' ρ h l q => l.nx _ _ q⟩
theorem as_break : AS X E (.Break pos) wBreak := ⟨PS.imp ps_break fun D σ H ⟨F, ρ, h, S, R, q⟩ => q F H σ (.refl F) S R, fun D D' ρ h l q => l.bk _ _ q⟩
theorem as_continue : AS X E (.Continue pos) wCont := ⟨PS.imp ps_continue fun D σ H ⟨F, ρ, h, S, R, q⟩ => q F H σ (.refl F) S R, fun D D' ρ h l q => l.ct _ _ q⟩
theorem as_doc {x j pos'} : AS X E (.Expr (.Constant (.str x) j pos) pos') wSkip := ⟨PS.imp ps_doc fun D σ H ⟨F, ρ, h, S, R, q⟩ => q F H σ (.refl F) S R, fun D D' ρ h l q => l.nx _ _ q⟩
theorem as_never : AS X E st wNever := ⟨PS.imp ps_never fun D σ H ⟨_, _, _, _, _, q⟩ => q, fun _ _ _ _ _ q => q⟩
theorem as_expr (he : AE X E e wa) (hs : swapsWith e none pos.line X.env = pure false := by rfl) : AS X E (.Expr e pos) (wExpr wa) := by
  refine ⟨PS.imp (ps_expr he.run hs) fun D σ H ⟨F, ρ, h, S, R, q⟩ => ?_, fun D D' ρ h l q => he.mo _ _ _ _ _ _ (fun _ _ z => l.nx _ _ z) l.ex q⟩
  refine ⟨F, ρ, h, S, R, he.mo _ _ _ _ _ _ (fun d h1 z => ?_) (fun _ _ z => z) q⟩
  intro F1 H1 v e1 S1 _
  exact z F1 H1 σ e1 S1 (R.ext e1)
theorem as_ret (he : AE X E e wa) : AS X E (.Return (some e) pos) (wRet wa) :=
  ⟨PS.imp (ps_ret he.run) fun D σ H ⟨F, ρ, h, S, R, q⟩ => ⟨F, ρ, h, S, R, q⟩, fun D D' ρ h l q => he.mo _ _ _ _ _ _ l.rt l.ex q⟩
theorem as_retN : AS X E (.Return none pos) wRetN := ⟨PS.imp ps_retN fun D σ H ⟨F, ρ, h, S, R, q⟩ => q F H .non (.refl F) S .non, fun D D' ρ h l q => l.rt _ _ q⟩
theorem as_if {c : Expr} {A B : List Stmt} (hc : AT X E c ta) (ha : ASs X E A s1) (hb : ASs X E B s2) : AS X E (.If c A B pos) (wIfS ta s1 s2) := by
  refine ⟨PS.imp (ps_if hc.run ha.run hb.run) fun D σ H ⟨F, ρ, h, S, R, q⟩ => ?_, fun D D' ρ h l q => hc.mo _ _ _ _ _ _ (fun c h1 q1 => ?_) l.ex q⟩
  · refine ⟨F, ρ, h, S, R, hc.mo _ _ _ _ _ _ (fun x h1 hx => ?_) (fun _ _ z => z) q⟩
    intro F1 H1 e1 S1
    split at hx
    · rename_i e; rw [if_pos e]; exact ⟨F1, ρ, h1, S1, R.ext e1, ha.mo _ _ _ _ (LD.ext e1) hx⟩
    · rename_i e; rw [if_neg e]; exact ⟨F1, ρ, h1, S1, R.ext e1, hb.mo _ _ _ _ (LD.ext e1) hx⟩
  · split at q1
    · rename_i e; rw [if_pos e]; exact ha.mo _ _ _ _ l q1
    · rename_i e; rw [if_neg e]; exact hb.mo _ _ _ _ l q1
/-! ### targets -/
theorem ag_name (i : Nat) {x : Str} (hN : X.N.Nodup) (hi : X.N[i]? = some x := by rfl) (hx : Loc X.env.scope x := by first | exact Or.inl rfl | exact Or.inr rfl) (hf : X.fn x = true ∨ X.env.scope.names.lookup x = some .local := by first | exact .inl rfl | exact .inr rfl) : AG X E (.Name x pos) (gN i) := by
  refine ⟨PG.imp (pg_name hN hi hx hf) fun v σ H Q ⟨F, ρ, h, d, S, R, r, q⟩ => q F H _ (.refl F) S (R.set r i), fun d ρ h Q Q' X X' hq _ q => hq _ _ q⟩
theorem ags_nil : AGs X E [] gsNil := by
  refine ⟨PGs.imp pgs_nil fun v σ H Q ⟨F, ρ, h, d, S, R, r, q⟩ => ?_, fun d ρ h Q Q' X X' hq _ q => ⟨q.1, hq _ _ q.2⟩⟩
  obtain ⟨rfl, q⟩ := q
  cases r
  exact ⟨rfl, q F H _ (.refl F) S R⟩
theorem ags_cons {g : WG} {gr : WGs} (h1 : AG X E e g) (h2 : AGs X E es gr) (hs : (assignEach (e :: es) X.env).map (·.2) = assign e X.env :: (assignEach es X.env).map (·.2) := by rfl) : AGs X E (e :: es) (gsCons g gr) := by
  refine ⟨PGs.imp (pgs_cons h1.run h2.run hs) fun v σ H Q ⟨F, ρ, h, d, S, R, r, q⟩ => ?_, fun d ρ h Q Q' X X' hq hx q => ?_⟩
  · obtain ⟨x, xs, rfl, q⟩ := q
    cases r with
    | cons r rr =>
      refine ⟨_, _, rfl, F, ρ, h, x, S, R, r, h1.mo _ _ _ _ _ _ _ (fun ρ1 g1 z => ?_) (fun _ _ z => z) q⟩
      intro F1 H1 σ1 e1 S1 R1
      exact ⟨F1, ρ1, g1, xs, S1, R1, rr.ext e1, h2.mo _ _ _ _ _ _ _ (fun _ _ z => LS.ext e1 z) (fun _ _ z => LX.ext e1 z) z⟩
  · obtain ⟨x, xs, e, q⟩ := q
    exact ⟨x, xs, e, h1.mo _ _ _ _ _ _ _ (fun ρ1 g1 z => h2.mo _ _ _ _ _ _ _ hq hx z) hx q⟩
theorem ag_tup {k2 n : Nat} {gr : WGs} (hc : X.calm = true) (h : AGs X E es gr) (hn : (assignEach es X.env).length = n := by rfl) (hst : (assignEach es X.env).findIdx? (·.1) = none := by rfl) : AG X E (.Tuple es k2 pos) (gT n gr) := by
  refine ⟨PG.imp (pg_tup hc h.run hn hst) fun v σ H Q ⟨F, ρ, g, d, S, R, r, q⟩ => ?_, fun d ρ g Q Q' X X' hq hx q => ?_⟩
  · obtain ⟨xs, rfl, l, q⟩ := q
    cases r with
    | @tup a _ vs hs rs => exact ⟨a, vs, rfl, sqt_of S.fz hs, by rw [← rs.length]; exact l, F, ρ, g, xs, S, R, rs, q⟩
  · obtain ⟨xs, e, l, q⟩ := q
    exact ⟨xs, e, l, h.mo _ _ _ _ _ _ _ hq hx q⟩
theorem mo_asg {g : WG} (h1 : MoE wa) (h2 : MoG g) : MoS (wAsg wa g) := fun D D' ρ h l q => h1 _ _ _ _ _ _ (fun x h1 z => h2 _ _ _ _ _ _ _ l.nx l.ex z) l.ex q
theorem to_asg {g : WG} (he : AE X E e wa) (hg : AG X E a g) {D : Ends} {σ : L2.St} {H : Hp} (q : tS X.K E (wAsg wa g) D σ H) : tAsg (tE X.K E wa) (tG X.K E g) D σ H := by
  obtain ⟨F, ρ, h, S, R, q⟩ := q
  refine ⟨F, ρ, h, S, R, he.mo _ _ _ _ _ _ (fun x h1 z => ?_) (fun _ _ z => z) q⟩
  intro F1 H1 v e1 S1 r
  exact ⟨F1, ρ, h1, x, S1, R.ext e1, r, hg.mo _ _ _ _ _ _ _ (fun _ _ z => LS.ext e1 z) (fun _ _ z => LX.ext e1 z) z⟩
theorem as_asg {tg : Expr} {g : WG} (he : AE X E e wa) (hg : AG X E tg g) (hs : swapsWithSole [tg] e pos.line X.env = pure false := by rfl) (hw : swappedStores [tg] e X.env = pure none := by rfl)
    (h1 : (assignEach [tg] X.env).map (·.2) = [assign tg X.env] := by rfl) : AS X E (.Assign [tg] e pos) (wAsg wa g) :=
  ⟨PS.imp (ps_asg he.run hg.run hs hw h1) fun D σ H q => to_asg he hg q, mo_asg he.mo hg.mo⟩
/-- name = value -/
theorem as_set (i : Nat) {x : Str} {pos' : Pos} (hN : X.N.Nodup) (he : AE X E e wa) (hi : X.N[i]? = some x := by rfl) (hx : Loc X.env.scope x := by first | exact Or.inl rfl | exact Or.inr rfl) (hs : swapsWith e (some (.Name x pos')) pos.line X.env = pure false := by rfl)
    (hf : X.fn x = true ∨ X.env.scope.names.lookup x = some .local := by first | exact .inl rfl | exact .inr rfl) : AS X E (.Assign [.Name x pos'] e pos) (wAsg wa (gN i)) := by
  have ag : AG X E (.Name x pos') (gN i) := ag_name i hN hi hx hf
  refine ⟨PS.imp (ps_set hN hi hx he.run hs hf) fun D σ H q => ?_, mo_asg he.mo ag.mo⟩
  obtain ⟨F, ρ, h, S, R, q⟩ := q
  refine ⟨F, ρ, h, S, R, he.mo _ _ _ _ _ _ (fun x h1 z => ?_) (fun _ _ z => z) q⟩
  intro F1 H1 v e1 S1 r
  exact z F1 H1 _ e1 S1 ((R.ext e1).set r i)
theorem as_par (i j : Nat) {x y : Str} {px py pt : Pos} {kt k2 pt2} (c : Cg gz X E k) (hij : i ≠ j) (ha : AA X E [a, b] wl)
    (hi : X.N[i]? = some x := by rfl) (hj : X.N[j]? = some y := by rfl)
    (hx : X.env.scope.names.lookup x = some .local := by rfl) (hy : X.env.scope.names.lookup y = some .local := by rfl)
    (hw : swappedStores [.Tuple [.Name x px, .Name y py] kt pt] (.Tuple [a, b] k2 pt2) X.env = pure (some [x, y]) := by rfl)
    (hs : swapsWithSole [.Tuple [.Name x px, .Name y py] kt pt] (.Tuple [a, b] k2 pt2) pos.line X.env = pure false := by rfl) :
    AS X E (.Assign [.Tuple [.Name x px, .Name y py] kt pt] (.Tuple [a, b] k2 pt2) pos) (wPar i j wl) := by
  refine ⟨PS.imp (ps_par c.calm c.nd hi hj hij hx hy ha.run hw hs) fun D σ H ⟨F, ρ, h, S, R, q⟩ => ?_, fun D D' ρ h l q => ha.mo _ _ _ _ _ _ (fun ds h1 ⟨x, y, e, z⟩ => ⟨x, y, e, l.nx _ _ z⟩) l.ex q⟩
  refine ⟨F, ρ, h, S, R, ha.mo _ _ _ _ _ _ (fun ds h1 z => ?_) (fun _ _ z => z) q⟩
  intro F1 H1 vs e1 S1 rs
  obtain ⟨x, y, rfl, z⟩ := z
  cases rs with
  | cons r1 rs =>
    cases rs with
    | cons r2 rs =>
      cases rs
      exact ⟨_, _, rfl, z F1 H1 _ e1 S1 (((R.ext e1).set r1 i).set r2 j)⟩
theorem as_aug (i : Nat) {x : Str} {op : Operator} {r : R2} {f : D → D → AH → KD → Prop} {pos' : Pos} (hN : X.N.Nodup) (ok : OpD X.K r f) (ho : OpR X (inplaceOp op) r) (he : AE X E e wa)
    (hi : X.N[i]? = some x := by rfl) (hx : Loc X.env.scope x := by first | exact Or.inl rfl | exact Or.inr rfl) (hf : X.fn x = true ∨ X.env.scope.names.lookup x = some .local := by first | exact .inl rfl | exact .inr rfl) :
    AS X E (.AugAssign (.Name x pos') op e pos) (wAug i wa f) := by
  refine ⟨PS.imp (ps_aug (ti := r) hN hi hx he.run (fun pins s σ H x y v u Q I r1 r2 q => ho pins s σ H x y v u Q I r1 r2 q) hf) fun D σ H ⟨F, ρ, h, S, R, q⟩ => ?_, fun D D' ρ h l q => ?_⟩
  · obtain ⟨x, hx, q⟩ := q
    obtain ⟨v, hv, rv⟩ := R.2 _ _ hx
    refine ⟨v, hv, F, ρ, h, S, R, he.mo _ _ _ _ _ _ (fun y h1 z => ?_) (fun _ _ z => z) q⟩
    intro F1 H1 vy e1 S1 ry
    refine ok.to S1 (rv.ext e1) ry (ok.mo (fun d h2 w => ?_) z)
    intro F2 H2 v2 e2 S2 r2
    exact w F2 H2 _ (e1.trans e2) S2 ((R.ext (e1.trans e2)).set r2 i)
  · obtain ⟨x, hx, q⟩ := q
    exact ⟨x, hx, he.mo _ _ _ _ _ _ (fun y h1 z => ok.mo (fun _ _ z => l.nx _ _ z) z) l.ex q⟩
end

/-! ### while -/
def wWhile (c : WT) (tb : WS) : WS := fun D ρ h => ∃ W : Nat → EnvD → AH → Prop, (∃ m, W m ρ h) ∧ ∀ m ρ h, W m ρ h →
  c ρ h (fun b h1 => if b = true then tb { D with nx := fun ρ' h' => ∃ m', m' < m ∧ W m' ρ' h', ct := fun ρ' h' => ∃ m', m' < m ∧ W m' ρ' h', bk := D.nx } ρ h1 else D.nx ρ h1) D.ex
section
variable {X : Cx} {E : XK} {k : Nat} {e : Expr} {ta : WT} {pos : Pos} {body : List Stmt} {tb : WS}
theorem as_while (c : Cg gz X E k) (hc : AT X E e ta) (hb : ASs X E body tb) : AS X E (.While e body [] pos) (wWhile ta tb) := by
  refine ⟨PS.imp (ps_while c.po hc.run hb.run) fun D σ H ⟨F, ρ, h, S, R, q⟩ => ?_, fun D D' ρ h l q => ?_⟩
  · obtain ⟨W, ⟨m0, w0⟩, turn⟩ := q
    refine ⟨fun m σ H => ∃ F1 ρ1 h1, Ext F F1 ∧ Sim X.K F1 h1 H ∧ EnvR X.K F1 ρ1 σ ∧ W m ρ1 h1, ⟨m0, F, ρ, h, .refl F, S, R, w0⟩, ?_⟩
    rintro m σ1 H1 ⟨F1, ρ1, h1, e1, S1, R1, w1⟩
    refine ⟨F1, ρ1, h1, S1, R1, hc.mo _ _ _ _ _ _ (fun b h2 z => ?_) (fun _ _ z => LX.ext e1 z) (turn m ρ1 h1 w1)⟩
    intro F2 H2 e2 S2
    have e12 := e1.trans e2
    split at z
    · rename_i cb
      rw [if_pos cb]
      refine ⟨fun σ' H' => ∃ F3 ρ3 h3 m', m' < m ∧ Ext F F3 ∧ Sim X.K F3 h3 H' ∧ EnvR X.K F3 ρ3 σ' ∧ W m' ρ3 h3, fun σ' H' ⟨F3, ρ3, h3, m', lt, e3, S3, R3, w3⟩ => ⟨m', lt, F3, ρ3, h3, e3, S3, R3, w3⟩, F2, ρ1, h2, S2, R1.ext e2, hb.mo _ _ _ _ ?_ z⟩
      refine ⟨fun ρ4 h4 z4 F4 H4 σ4 e4 S4 R4 => ?_, fun _ _ z => LQ.ext e12 z, fun ρ4 h4 z4 => LS.ext e12 z4, fun ρ4 h4 z4 F4 H4 σ4 e4 S4 R4 => ?_, fun _ _ z => LX.ext e12 z⟩
      · obtain ⟨m', lt, w⟩ := z4
        exact ⟨F4, ρ4, h4, m', lt, e12.trans e4, S4, R4, w⟩
      · obtain ⟨m', lt, w⟩ := z4
        exact ⟨F4, ρ4, h4, m', lt, e12.trans e4, S4, R4, w⟩
    · rename_i cb
      rw [if_neg cb]
      exact z F2 H2 σ1 e12 S2 (R1.ext e2)
  · obtain ⟨W, w0, turn⟩ := q
    refine ⟨W, w0, fun m ρ h w => hc.mo _ _ _ _ _ _ (fun b h1 z => ?_) l.ex (turn m ρ h w)⟩
    split at z
    · rename_i cb; rw [if_pos cb]
      exact hb.mo { D with nx := fun ρ' h' => ∃ m', m' < m ∧ W m' ρ' h', ct := fun ρ' h' => ∃ m', m' < m ∧ W m' ρ' h', bk := D.nx } _ _ _ ⟨fun _ _ z => z, l.rt, fun _ _ z => l.nx _ _ z, fun _ _ z => z, l.ex⟩ z
    · rename_i cb; rw [if_neg cb]; exact l.nx _ _ z
end

/-! ### what is walked -/
structure ItD (K : PySem.W.Frag) (F : Hp) (J : It) (xs : List D) (st : AH → Prop) : Prop where
  go : ∀ {i F' h H}, Ext F F' → Sim K F' h H → st h → i < xs.length → J.go i H
  stop : ∀ {i F' h H}, Ext F F' → Sim K F' h H → st h → xs.length = i → J.stop i H
  yld : ∀ {i F' h H x H' d}, Ext F F' → Sim K F' h H → st h → J.yld i H x H' → xs[i]? = some d → ∃ F'', Ext F' F'' ∧ Sim K F'' h H' ∧ Rep K F'' d x
abbrev WI := EnvD → AH → (List D → (AH → Prop) → AH → Prop) → KX → Prop
def MoI (w : WI) : Prop := ∀ ρ h Q Q' X X', (∀ xs st h, Q xs st h → Q' xs st h) → (∀ x h, X x h → X' x h) → w ρ h Q X → w ρ h Q' X'
def LI (K : PySem.W.Frag) (F : Hp) (R : It → Hp → Prop) : List D → (AH → Prop) → AH → Prop := fun xs st h => ∀ F' H' J, Ext F F' → Sim K F' h H' → ItD K F' J xs st → R J H'
def tI (K : PySem.W.Frag) (E : XK) (w : WI) : TI := fun σ H R => ∃ F ρ h, Sim K F h H ∧ EnvR K F ρ σ ∧ w ρ h (LI K F R) (LX K F E)
structure AI (X : Cx) (E : XK) (tg iter : Expr) (w : WI) : Prop where
  run : PI X tg iter (tI X.K E w)
  mo : MoI w
theorem PI.imp {X : Cx} {tg e : Expr} {t t' : TI} (p : PI X tg e t) (h : ∀ σ H Q, t' σ H Q → t σ H Q) : PI X tg e t' := ⟨fun pins s σ H Q I q => p.run pins s σ H Q I (h _ _ _ q)⟩
def loopD (st : AH → Prop) (g : WG) (tb : WS) (Z : EndsD) : List D → EnvD → AH → Prop
  | [], ρ, h => st h ∧ Z.nx ρ h
  | x :: r, ρ, h => st h ∧ g x ρ h (fun ρ2 h2 => tb { Z with nx := loopD st g tb Z r, ct := loopD st g tb Z r, bk := Z.nx } ρ2 h2) Z.ex
def wFor (wi : WI) (g : WG) (tb : WS) : WS := fun D ρ h => wi ρ h (fun xs st h1 => loopD st g tb D xs ρ h1) D.ex
theorem loopD_mo {st : AH → Prop} {g : WG} {tb : WS} (mg : MoG g) (mb : MoS tb) {Z Z' : EndsD} (l : Z.Le Z') : ∀ (xs : List D) (ρ : EnvD) (h : AH), loopD st g tb Z xs ρ h → loopD st g tb Z' xs ρ h
  | [], ρ, h, q => ⟨q.1, l.nx _ _ q.2⟩
  | x :: r, ρ, h, q => ⟨q.1, mg _ _ _ _ _ _ _ (fun ρ2 h2 z => mb { Z with nx := loopD st g tb Z r, ct := loopD st g tb Z r, bk := Z.nx } _ _ _ ⟨fun _ _ z => loopD_mo mg mb l r _ _ z, l.rt, fun _ _ z => l.nx _ _ z, fun _ _ z => loopD_mo mg mb l r _ _ z, l.ex⟩ z) l.ex q.2⟩
/-- a loop by an invariant -/
theorem loopD_inv {st : AH → Prop} {g : WG} {tb : WS} {Z : EndsD} {xs : List D} (P : Nat → EnvD → AH → Prop) {ρ : EnvD} {h : AH} (h0 : P 0 ρ h) (hst : ∀ i ρ h, P i ρ h → st h)
    (hs : ∀ i x ρ h, xs[i]? = some x → P i ρ h → g x ρ h (fun ρ2 h2 => tb { Z with nx := P (i + 1), ct := P (i + 1), bk := Z.nx } ρ2 h2) Z.ex) (hd : ∀ ρ h, P xs.length ρ h → Z.nx ρ h) (mg : MoG g) (mb : MoS tb) : loopD st g tb Z xs ρ h := by
  suffices H : ∀ (n i : Nat) (ρ : EnvD) (h : AH), xs.length - i = n → i ≤ xs.length → P i ρ h → loopD st g tb Z (xs.drop i) ρ h by
    simpa using H xs.length 0 ρ h (by simp) (Nat.zero_le _) h0
  intro n
  induction n with
  | zero =>
    intro i ρ h e l p
    have : i = xs.length := by omega
    subst this
    rw [List.drop_length]
    exact ⟨hst _ _ _ p, hd _ _ p⟩
  | succ n ih =>
    intro i ρ h e l p
    have lt : i < xs.length := by omega
    rw [List.drop_eq_getElem_cons lt]
    refine ⟨hst _ _ _ p, mg _ _ _ _ _ _ _ (fun ρ2 h2 z => mb { Z with nx := P (i + 1), ct := P (i + 1), bk := Z.nx } _ _ _ ⟨fun ρ' h' z => ih (i + 1) ρ' h' (by omega) lt z, fun _ _ z => z, fun _ _ z => z, fun ρ' h' z => ih (i + 1) ρ' h' (by omega) lt z, fun _ _ z => z⟩ z) (fun _ _ z => z) (hs i _ ρ h (List.getElem?_eq_getElem lt) p)⟩
section
variable {X : Cx} {E : XK} {k : Nat} {e tg iter : Expr} {pos : Pos} {body : List Stmt} {tb : WS} {wi : WI} {g : WG}
theorem as_for (c : Cg gz X E k) (hi : AI X E tg iter wi) (hg : AG X E tg g) (hb : ASs X E body tb) (hs : ∀ x, foldedSetIterable iter X.env x = pure x := by intro _; rfl) : AS X E (.For tg iter body [] pos) (wFor wi g tb) := by
  refine ⟨PS.imp (ps_for c.po c.calm hi.run hg.run hb.run hs) fun D σ H ⟨F, ρ, h, S, R, q⟩ => ?_, fun D D' ρ h l q => hi.mo _ _ _ _ _ _ (fun xs st h z => loopD_mo hg.mo hb.mo l _ _ _ z) l.ex q⟩
  refine ⟨F, ρ, h, S, R, hi.mo _ _ _ _ _ _ (fun xs st h1 z => ?_) (fun _ _ z => z) q⟩
  intro F1 H1 J e1 S1 it
  refine ⟨fun i m σ H => m = xs.length - i ∧ i ≤ xs.length ∧ ∃ F2 ρ2 h2, Ext F1 F2 ∧ Sim X.K F2 h2 H ∧ EnvR X.K F2 ρ2 σ ∧ loopD st g tb (LD X.K F D E) (xs.drop i) ρ2 h2, ⟨xs.length, by simp, Nat.zero_le _, F1, ρ, h1, .refl _, S1, R.ext e1, by simpa using z⟩, ?_⟩
  rintro i m σ2 H2 ⟨rfl, hi2, F2, ρ2, h2, e2, S2, R2, z2⟩
  by_cases lt : i < xs.length
  · rw [List.drop_eq_getElem_cons lt] at z2
    obtain ⟨hst, z2⟩ := z2
    refine .inr ⟨it.go e2 S2 hst lt, fun σ' H' => ∃ F3 ρ3 h3, Ext F1 F3 ∧ Sim X.K F3 h3 H' ∧ EnvR X.K F3 ρ3 σ' ∧ loopD st g tb (LD X.K F D E) (xs.drop (i + 1)) ρ3 h3, fun σ' H' p => ⟨xs.length - (i + 1), by omega, rfl, lt, p⟩, fun x H' y => ?_⟩
    obtain ⟨F3, e3, S3, r3⟩ := it.yld e2 S2 hst y (List.getElem?_eq_getElem lt)
    have e13 := e1.trans (e2.trans e3)
    refine ⟨F3, ρ2, h2, _, S3, R2.ext e3, r3, hg.mo _ _ _ _ _ _ _ (fun ρ4 h4 z4 => ?_) (fun _ _ z => LX.ext e13 z) z2⟩
    intro F4 H4 σ4 e4 S4 R4
    have e14 := e13.trans e4
    refine ⟨F4, ρ4, h4, S4, R4, hb.mo _ _ _ _ ⟨fun ρ5 h5 z5 F5 H5 σ5 e5 S5 R5 => ⟨F5, ρ5, h5, (e2.trans e3).trans (e4.trans e5), S5, R5, z5⟩, fun _ _ z => LQ.ext e14 z, fun _ _ z => LS.ext e14 z, fun ρ5 h5 z5 F5 H5 σ5 e5 S5 R5 => ⟨F5, ρ5, h5, (e2.trans e3).trans (e4.trans e5), S5, R5, z5⟩, fun _ _ z => LX.ext e14 z⟩ z4⟩
  · have e : i = xs.length := by omega
    subst e
    rw [List.drop_length] at z2
    exact .inl ⟨it.stop e2 S2 z2.1 rfl, z2.2 F2 H2 σ2 (e1.trans e2) S2 R2⟩
/-! sources -/
def iSeq (wa : WE) : WI := fun ρ h R X => wa ρ h (fun x h1 => match x with
  | .lst xs => R xs (fun _ => True) h1
  | .ref a => ∃ xs, h1 a = some (.lst xs) ∧ R xs (fun h => h a = some (.lst xs)) h1
  | _ => False) X
def iTupD (wa : WE) : WI := fun ρ h R X => wa ρ h (fun x h1 => match x with
  | .tup xs => R xs (fun _ => True) h1
  | .tpl xs => R xs (fun _ => True) h1
  | _ => False) X
def intsD (lo : Int) (n : Nat) : List D := (List.range n).map fun i => D.int (lo + (i : Nat))
def iRng1 (wl : WA) : WI := fun ρ h R X => wl ρ h (fun ds h1 => match ds with
  | [.int j] => -(2 ^ 62) ≤ j ∧ j < 2 ^ 62 ∧ R (intsD 0 j.toNat) (fun _ => True) h1
  | _ => False) X
def iRng2 (wl : WA) : WI := fun ρ h R X => wl ρ h (fun ds h1 => match ds with
  | [.int i, .int j] => (-(2 ^ 62) ≤ i ∧ i < 2 ^ 62 ∧ -(2 ^ 62) ≤ j ∧ j < 2 ^ 62) ∧ R (intsD i (j - i).toNat) (fun _ => True) h1
  | _ => False) X
theorem ItD.list {K : PySem.W.Frag} {F : Hp} {a : Addr} {xs : List D} {st : AH → Prop} (h : ∀ {F' h H}, Ext F F' → Sim K F' h H → st h → ∃ vs, SqL K H a vs ∧ Reps K F' xs vs) : ItD K F (Itl K a) xs st where
  go := fun {i F' h0 H} e S s l => by
    obtain ⟨vs, q, r⟩ := h e S s
    obtain ⟨v, hv, _⟩ := r.get (List.getElem?_eq_getElem l)
    exact ⟨vs, v, q, hv⟩
  stop := fun {i F' h0 H} e S s l => by
    obtain ⟨vs, q, r⟩ := h e S s
    exact ⟨vs, q, by rw [← r.length]; exact Nat.le_of_eq l⟩
  yld := fun {i F' h0 H x H' d} e S s y hd => by
    obtain ⟨rfl, y⟩ := y
    obtain ⟨vs, q, r⟩ := h e S s
    obtain ⟨v, hv, rv⟩ := r.get hd
    have := y vs q
    rw [hv] at this; cases this
    exact ⟨F', .refl _, S, rv⟩
theorem ItD.tup {K : PySem.W.Frag} {F : Hp} {a : Addr} {xs : List D} {vs : List V} (q : SqT K F a vs) (r : Reps K F xs vs) : ItD K F (Itt K a) xs (fun _ => True) where
  go := fun {i F' h0 H} e S s l => by
    obtain ⟨v, hv, _⟩ := r.get (List.getElem?_eq_getElem l)
    exact ⟨vs, v, sqt_of S.fz (e.sqt q), hv⟩
  stop := fun {i F' h0 H} e S s l => ⟨vs, sqt_of S.fz (e.sqt q), by rw [← r.length]; exact Nat.le_of_eq l⟩
  yld := fun {i F' h0 H x H' d} e S s y hd => by
    obtain ⟨rfl, y⟩ := y
    obtain ⟨v, hv, rv⟩ := r.get hd
    have := y vs (sqt_of S.fz (e.sqt q))
    rw [hv] at this; cases this
    exact ⟨F', .refl _, S, rv.ext e⟩
theorem intsD_len {lo : Int} {n : Nat} : (intsD lo n).length = n := by simp [intsD]
theorem intsD_get {lo : Int} {n i : Nat} {d : D} (h : (intsD lo n)[i]? = some d) : d = .int (lo + (i : Nat)) ∧ i < n := by
  unfold intsD at h
  rw [List.getElem?_map] at h
  by_cases c : i < n
  · rw [List.getElem?_range c] at h
    cases h; exact ⟨rfl, c⟩
  · rw [List.getElem?_eq_none (by simpa using c)] at h; cases h
theorem ItD.rng {K : PySem.W.Frag} {F : Hp} {lo : Int} {n : Nat} : ItD K F (Itr lo n) (intsD lo n) (fun _ => True) where
  go := fun {i F' h0 H} e S s l => by rw [intsD_len] at l; exact l
  stop := fun {i F' h0 H} e S s l => by rw [intsD_len] at l; exact Nat.le_of_eq l
  yld := fun {i F' h0 H x H' d} e S s y hd => by
    obtain ⟨rfl, rfl⟩ := y
    obtain ⟨rfl, _⟩ := intsD_get hd
    exact ⟨F', .refl _, S, .int _⟩
variable {wa : WE} {wl : WA} {es : List Expr} {p : Pos}
theorem ai_list {l : Expr} (hl : AE X E l wa) : AI X E tg l (iSeq wa) := by
  refine ⟨PI.imp (pi_list hl.run) fun σ H R ⟨F, ρ, g, S, Rr, q⟩ => ?_, fun ρ h Q Q' X X' hq hx q => hl.mo _ _ _ _ _ _ (fun x h1 z => ?_) hx q⟩
  · refine ⟨F, ρ, g, S, Rr, hl.mo _ _ _ _ _ _ (fun x h1 z => ?_) (fun _ _ z => z) q⟩
    intro F1 H1 v e1 S1 r
    split at z
    · cases r with
      | @lst a xs vs hf rs =>
        exact ⟨a, rfl, ⟨vs, .of (S1.fz _ _ hf)⟩, z F1 H1 _ e1 S1 (ItD.list fun {F' h0 H0} e S _ => ⟨vs, .of (S.fz _ _ (e _ _ hf)), rs.ext e⟩)⟩
    · rename_i a
      obtain ⟨xs, hx, z⟩ := z
      cases r
      obtain ⟨_, u, hu, vs, rfl, rs⟩ := S1.ob _ _ hx
      refine ⟨a, rfl, ⟨vs, .of hu⟩, z F1 H1 _ e1 S1 (ItD.list fun {F' h0 H0} e S st => ?_)⟩
      obtain ⟨_, u', hu', vs', rfl, rs'⟩ := S.ob _ _ st
      exact ⟨vs', .of hu', rs'⟩
    · exact z.elim
  · split at z
    · exact hq _ _ _ z
    · obtain ⟨xs, hx, z⟩ := z
      exact ⟨xs, hx, hq _ _ _ z⟩
    · exact z.elim
theorem ai_tup {l : Expr} (hl : AE X E l wa) : AI X E tg l (iTupD wa) := by
  refine ⟨PI.imp (pi_tup hl.run) fun σ H R ⟨F, ρ, g, S, Rr, q⟩ => ?_, fun ρ h Q Q' X X' hq hx q => hl.mo _ _ _ _ _ _ (fun x h1 z => ?_) hx q⟩
  · refine ⟨F, ρ, g, S, Rr, hl.mo _ _ _ _ _ _ (fun x h1 z => ?_) (fun _ _ z => z) q⟩
    intro F1 H1 v e1 S1 r
    split at z
    · cases r with
      | @tup a xs vs hf rs => exact ⟨a, rfl, ⟨vs, sqt_of S1.fz hf⟩, z F1 H1 _ e1 S1 (ItD.tup hf rs)⟩
    · cases r with
      | @tpl a ob xs vs hf hd rs => exact ⟨a, rfl, ⟨vs, sqt_of S1.fz (.inl (.inr ⟨_, hf⟩))⟩, z F1 H1 _ e1 S1 (ItD.tup (.inl (.inr ⟨_, hf⟩)) rs)⟩
    · exact z.elim
  · split at z
    · exact hq _ _ _ z
    · exact hq _ _ _ z
    · exact z.elim
theorem ai_rng1 {a : Expr} (hm : X.mg "range" = none) (ha : AA X E [a] wl) (hg : Gl X "range" := by rfl) (hs : starEach [a] X.env = [(false, eval a X.env)] := by rfl) : AI X E tg (.Call (.Name "range" p) [a] [] pos) (iRng1 wl) := by
  refine ⟨PI.imp (pi_range1 hg hm ha.run hs) fun σ H R ⟨F, ρ, g, S, Rr, q⟩ => ?_, fun ρ h Q Q' X X' hq hx q => ha.mo _ _ _ _ _ _ (fun ds h1 z => ?_) hx q⟩
  · refine ⟨F, ρ, g, S, Rr, ha.mo _ _ _ _ _ _ (fun ds h1 z => ?_) (fun _ _ z => z) q⟩
    intro F1 H1 vs e1 S1 rs
    split at z
    · cases rs with
      | cons r rs => cases rs; cases r; exact ⟨_, rfl, z.1, z.2.1, z.2.2 F1 H1 _ e1 S1 ItD.rng⟩
    · exact z.elim
  · split at z
    · exact ⟨z.1, z.2.1, hq _ _ _ z.2.2⟩
    · exact z.elim
theorem ai_rng2 {a b : Expr} (hm : X.mg "range" = none) (ha : AA X E [a, b] wl) (hg : Gl X "range" := by rfl) (hs : starEach [a, b] X.env = [(false, eval a X.env), (false, eval b X.env)] := by rfl) (hs2 : starEach [b] X.env = [(false, eval b X.env)] := by rfl) :
    AI X E tg (.Call (.Name "range" p) [a, b] [] pos) (iRng2 wl) := by
  refine ⟨PI.imp (pi_range2 hg hm ha.run hs hs2) fun σ H R ⟨F, ρ, g, S, Rr, q⟩ => ?_, fun ρ h Q Q' X X' hq hx q => ha.mo _ _ _ _ _ _ (fun ds h1 z => ?_) hx q⟩
  · refine ⟨F, ρ, g, S, Rr, ha.mo _ _ _ _ _ _ (fun ds h1 z => ?_) (fun _ _ z => z) q⟩
    intro F1 H1 vs e1 S1 rs
    split at z
    · cases rs with
      | cons r rs =>
        cases r
        cases rs with
        | cons r rs => cases rs; cases r; exact ⟨_, _, rfl, z.1, z.2 F1 H1 _ e1 S1 ItD.rng⟩
    · exact z.elim
  · split at z
    · exact ⟨z.1, hq _ _ _ z.2⟩
    · exact z.elim
end
end DL
namespace DL
open PySem PySem.Spec L2

def wipeD (ρ : EnvD) : List Nat → EnvD
  | [] => ρ
  | v :: vs => (wipeD ρ vs).set v none
theorem EnvR.wipe {K : PySem.W.Frag} {F : Hp} {ρ : EnvD} {σ : L2.St} (r : EnvR K F ρ σ) : ∀ vs : List Nat, EnvR K F (wipeD ρ vs) (L2.wipe σ vs)
  | [] => r
  | v :: vs => by
    have ih := EnvR.wipe r vs
    refine ⟨by simp [wipeD, L2.wipe, ih.1], fun i d e => ?_⟩
    show ∃ x, ((L2.wipe σ vs).set v none)[i]? = some (some x) ∧ _
    have e : ((wipeD ρ vs).set v none)[i]? = some (some d) := e
    by_cases c : v = i
    · subst c
      by_cases l : v < (wipeD ρ vs).length
      · rw [List.getElem?_set_self l] at e; cases e
      · rw [List.getElem?_eq_none (by simpa using l)] at e; cases e
    · rw [List.getElem?_set_ne c] at e ⊢
      exact ih.2 i d e
def rm (h : AH) (p : Addr) : AH := fun b => if b = p then none else h b
@[simp] theorem rm_up {h : AH} {p : Addr} {o : AO} : rm (up h p o) p = rm h p := by funext b; unfold rm up; split <;> rfl
theorem rm_none {h : AH} {p : Addr} (e : h p = none) : rm h p = h := by
  funext b; unfold rm; split
  · rename_i c; rw [c, e]
  · rfl
theorem rm_sub {h : AH} {p : Addr} : Sub (rm h p) h := fun a o e => by
  unfold rm at e; split at e
  · cases e
  · exact e
theorem rm_same {h : AH} {p : Addr} : rm h p p = none := by simp [rm]

/-- a target of a comprehension: names alone -/
structure GW (K : PySem.W.Frag) (vs : List Nat) (g : WG) (gv : TG) : Prop where
  to : ∀ {F h H d v ρ σ} {QD : EnvD → AH → Prop} {Q : L2.St → Hp → Prop}, Sim K F h H → Rep K F d v → EnvR K F ρ σ → g d ρ h QD (fun _ _ => False) →
    (∀ ρ2 σ2, EnvR K F ρ2 σ2 → QD ρ2 h → L2.wipe σ2 vs = L2.wipe σ vs → Q σ2 H) → gv v σ H Q
  mo : MoG g
theorem wipe_set {σ : L2.St} {i : Nat} {x : Option V} : ∀ {vs : List Nat}, i ∈ vs → L2.wipe (σ.set i x) vs = L2.wipe σ vs
  | v :: vs, h => by
    show (L2.wipe (σ.set i x) vs).set v none = (L2.wipe σ vs).set v none
    by_cases c : i ∈ vs
    · rw [wipe_set c]
    · have e : v = i := by rcases List.mem_cons.mp h with e | e; exact e.symm; exact absurd e c
      subst e
      have : ∀ {ws : List Nat}, L2.wipe (σ.set v x) ws = (L2.wipe σ ws).set v (if v ∈ ws then none else x) ∨ True := fun {ws} => .inr trivial
      apply List.ext_getElem?
      intro j
      by_cases ej : v = j
      · subst ej
        by_cases l : v < σ.length
        · rw [List.getElem?_set_self (by rw [L2.wipe_length, List.length_set]; exact l), List.getElem?_set_self (by rw [L2.wipe_length]; exact l)]
        · rw [List.getElem?_eq_none (by simp [L2.wipe_length]; omega), List.getElem?_eq_none (by simp [L2.wipe_length]; omega)]
      · rw [List.getElem?_set_ne ej, List.getElem?_set_ne ej]
        have q : ∀ (ws : List Nat) (a b : L2.St), (a.length = b.length) → (∀ j, v ≠ j → a[j]? = b[j]?) → ∀ j, v ≠ j → (L2.wipe a ws)[j]? = (L2.wipe b ws)[j]? := by
          intro ws
          induction ws with
          | nil => intro a b _ h j hj; exact h j hj
          | cons w ws ih =>
            intro a b hl h j hj
            show ((L2.wipe a ws).set w none)[j]? = ((L2.wipe b ws).set w none)[j]?
            by_cases c : w = j
            · subst c
              by_cases l : w < a.length
              · rw [List.getElem?_set_self (by rw [L2.wipe_length]; exact l), List.getElem?_set_self (by rw [L2.wipe_length, ← hl]; exact l)]
              · rw [List.getElem?_eq_none (by simp [L2.wipe_length]; omega), List.getElem?_eq_none (by simp [L2.wipe_length]; omega)]
            · rw [List.getElem?_set_ne c, List.getElem?_set_ne c]
              exact ih a b hl h j hj
        exact q vs _ _ (by simp) (fun j hj => by rw [List.getElem?_set_ne hj]) j ej
theorem gw_name {K : PySem.W.Frag} {vs : List Nat} {i : Nat} (hi : i ∈ vs) : GW K vs (gN i) (gName i) :=
  ⟨fun {F h H d v ρ σ QD Q} S r R q k => k _ _ (R.set r i) q (wipe_set hi), fun d ρ h Q Q' X X' hq _ q => hq _ _ q⟩
/-- i, j, .. : the names of a tuple target -/
def gsN : List Nat → WGs
  | [] => gsNil
  | i :: is => gsCons (gN i) (gsN is)
def gvN : List Nat → TGs
  | [] => L2.gNil
  | i :: is => L2.gCons (gName i) (gvN is)
theorem gw_names {K : PySem.W.Frag} {vs : List Nat} : ∀ {is : List Nat}, (∀ i ∈ is, i ∈ vs) → ∀ {F h H ds us ρ σ} {QD : EnvD → AH → Prop} {Q : L2.St → Hp → Prop}, Sim K F h H → Reps K F ds us → EnvR K F ρ σ → gsN is ds ρ h QD (fun _ _ => False) →
    (∀ ρ2 σ2, EnvR K F ρ2 σ2 → QD ρ2 h → L2.wipe σ2 vs = L2.wipe σ vs → Q σ2 H) → gvN is us σ H Q
  | [], _, F, h, H, ds, us, ρ, σ, QD, Q, S, r, R, q, k => by
    obtain ⟨rfl, q⟩ := q
    cases r
    exact ⟨rfl, k ρ σ R q rfl⟩
  | i :: is, hi, F, h, H, ds, us, ρ, σ, QD, Q, S, r, R, q, k => by
    obtain ⟨d, ds', rfl, q⟩ := q
    cases r with
    | cons r rr =>
      refine ⟨_, _, rfl, ?_⟩
      refine gw_names (is := is) (fun j hj => hi j (List.mem_cons_of_mem _ hj)) S rr (R.set r i) q fun ρ2 σ2 R2 q2 e2 => k ρ2 σ2 R2 q2 (e2.trans (wipe_set (hi i (List.mem_cons_self ..))))
theorem mo_gsN : ∀ is : List Nat, MoGs (gsN is)
  | [] => fun d ρ h Q Q' X X' hq _ q => ⟨q.1, hq _ _ q.2⟩
  | i :: is => fun d ρ h Q Q' X X' hq hx ⟨x, xs, e, q⟩ => ⟨x, xs, e, mo_gsN is _ _ _ _ _ _ _ hq hx q⟩
theorem mo_gT {n : Nat} {r : WGs} (m : MoGs r) : MoG (gT n r) := fun d ρ h Q Q' X X' hq hx ⟨xs, e, l, q⟩ => ⟨xs, e, l, m _ _ _ _ _ _ _ hq hx q⟩
theorem gw_tup {K : PySem.W.Frag} {vs : List Nat} {is : List Nat} (hi : ∀ i ∈ is, i ∈ vs) : GW K vs (gT is.length (gsN is)) (gTup K is.length (gvN is)) := by
  refine ⟨fun {F h H d v ρ σ QD Q} S r R q k => ?_, mo_gT (mo_gsN is)⟩
  obtain ⟨xs, rfl, l, q⟩ := q
  cases r with
  | @tup a _ us hs rs => exact ⟨a, us, rfl, sqt_of S.fz hs, by rw [← rs.length]; exact l, gw_names hi S rs R q k⟩

def compD (st : AH → Prop) (g : WG) (tt : WT) (te : WE) (vs : List Nat) (ρ : EnvD) (p : Addr) : List D → AH → (AH → Prop) → Prop
  | [], h, Q => st h ∧ Q h
  | x :: r, h, Q => st h ∧ g x (wipeD ρ vs) h (fun ρ2 h2 => tt ρ2 h2 (fun b h3 => if b = true then te ρ2 h3 (fun y h4 => ∃ acc, h4 p = some (.lst acc) ∧ acc.length < sizeLine ∧ compD st g tt te vs ρ p r (up h4 p (.lst (acc ++ [y]))) Q) (fun _ _ => False) else compD st g tt te vs ρ p r h3 Q) (fun _ _ => False)) (fun _ _ => False)
/-- what becomes of the list that a comprehension made -/
def endL (m : Bool) (p : Addr) (Q : KD) : AH → Prop := fun h => ∃ acc, h p = some (.lst acc) ∧ if m = true then Q (.ref p) h else Q (.lst acc) (rm h p)
def wLc (m : Bool) (wi : WI) (g : WG) (tt : WT) (te : WE) (vs : List Nat) : WE := fun ρ h Q X => wi ρ h (fun xs st h1 => ∀ p, h1 p = none → compD st g tt te vs ρ p xs (up h1 p (.lst [])) (endL m p Q)) X
def wYes : WT := fun _ h Q _ => Q true h
theorem mo_yes : MoT wYes := fun ρ h Q Q' X X' hq _ q => hq _ _ q
theorem compD_mo {st : AH → Prop} {g : WG} {tt : WT} {te : WE} {vs : List Nat} {ρ : EnvD} {p : Addr} (mg : MoG g) (mt : MoT tt) (me : MoE te) {Q Q' : AH → Prop} (hq : ∀ h, Q h → Q' h) : ∀ (xs : List D) (h : AH), compD st g tt te vs ρ p xs h Q → compD st g tt te vs ρ p xs h Q'
  | [], h, q => ⟨q.1, hq _ q.2⟩
  | x :: r, h, q => ⟨q.1, mg _ _ _ _ _ _ _ (fun ρ2 h2 z => mt _ _ _ _ _ _ (fun b h3 z => by
      split at z
      · rename_i c; rw [if_pos c]; exact me _ _ _ _ _ _ (fun y h4 ⟨acc, e, l, z⟩ => ⟨acc, e, l, compD_mo mg mt me hq r _ z⟩) (fun _ _ z => z) z
      · rename_i c; rw [if_neg c]; exact compD_mo mg mt me hq r _ z) (fun _ _ z => z) z) (fun _ _ z => z) q.2⟩
theorem endL_mo {m : Bool} {p : Addr} {Q Q' : KD} (hq : ∀ d h, Q d h → Q' d h) : ∀ h, endL m p Q h → endL m p Q' h := fun h ⟨acc, e, z⟩ => ⟨acc, e, by
  split at z
  · rename_i c; rw [if_pos c]; exact hq _ _ z
  · rename_i c; rw [if_neg c]; exact hq _ _ z⟩
theorem endL_to {K : PySem.W.Frag} {F : Hp} {h : AH} {H : Hp} {m : Bool} {p : Addr} {Q : VK} (S : Sim K F h H) (q : endL m p (LQ K F Q) h) : Q (.ref p) H := by
  obtain ⟨acc, e, q⟩ := q
  split at q
  · exact q.at S (.ref p)
  · obtain ⟨f, u, hu, us, rfl, rs⟩ := S.ob _ _ e
    obtain ⟨e2, S2⟩ := S.frz e hu rm_same rm_sub
    exact q _ _ _ e2 S2 (.lst upd_same (rs.ext e2))
theorem mo_lc {m : Bool} {wi : WI} {g : WG} {tt : WT} {te : WE} {vs : List Nat} (mi : MoI wi) (mg : MoG g) (mt : MoT tt) (me : MoE te) : MoE (wLc m wi g tt te vs) := fun ρ h Q Q' X X' hq hx q =>
  mi _ _ _ _ _ _ (fun xs st h1 z p hp => compD_mo mg mt me (endL_mo hq) _ _ (z p hp)) hx q

/-- the tests of a clause -/
structure ATs (X : Cx) (E : XK) (ifs : List Expr) (w : WT) : Prop where
  run : PTs X ifs (tT X.K E w)
  mo : MoT w
theorem ats_nil {X : Cx} {E : XK} : ATs X E [] wYes := ⟨⟨fun pins s σ H Q I ⟨F, ρ, h, S, R, q⟩ => pts_nil.run pins s σ H Q I (q F H (.refl F) S)⟩, mo_yes⟩
theorem ats_one {X : Cx} {E : XK} {c : Expr} {w : WT} (h : AT X E c w) : ATs X E [c] w := ⟨pts_one h.run, h.mo⟩

section
variable {X : Cx} {E : XK} {k : Nat} {elt tg iter : Expr} {ifs : List Expr} {scope : Scope} {own : List (Str × Nat)} {pos : Pos} {wi : WI} {g : WG} {gv : TG} {tt : WT} {te : WE}
/-- the block of a comprehension: nothing is let out of it -/
abbrev Blk (X : Cx) (scope : Scope) (s : Shared) (H : Hp) (C : Addr) (cl : List (Str × Addr)) (fp : List Addr) : Cx := X.blk s H scope (compEnvC scope cl C X.env) fp
theorem rel_free {sc : Scope} {x : Str} : ∀ {ns : List (Str × NameKind)}, ns.lookup x = some .free → (ns.map fun (n, k) => if (k == .free && sc.kind == .function && sc.names.lookup n == some .cell) then (n, NameKind.cell) else (n, k)).lookup x = some .cell ∨
    (ns.map fun (n, k) => if (k == .free && sc.kind == .function && sc.names.lookup n == some .cell) then (n, NameKind.cell) else (n, k)).lookup x = some .free
  | [], e => by simp at e
  | (y, j) :: ns, e => by
    have ih := @rel_free sc x ns
    rw [List.map_cons]
    dsimp only
    cases q : x == y with
    | true =>
      simp only [List.lookup_cons, q] at e
      cases e
      split
      · left; simp only [List.lookup_cons, q]
      · right; simp only [List.lookup_cons, q]
    | false =>
      simp only [List.lookup_cons, q] at e
      split <;> (simp only [List.lookup_cons, q]; exact ih e)
theorem blk_in {N : List Str} {sc scope : Scope} {s : Shared} {H : Hp} {C : Addr} {cl : List (Str × Addr)} {fp : List Addr} {own : List (Str × Nat)} (ok : BlkOk N sc scope own) : BlkOk N (Blk X sc s H C cl fp).env.scope scope own := by
  refine ⟨ok.kind, ok.uniq, ok.ix, fun y hy e => ?_, ok.own⟩
  show (relS sc X.env.scope).names.lookup y.1 = some .cell ∨ (relS sc X.env.scope).names.lookup y.1 = some .free
  rcases ok.free y hy e with q | q
  · exact .inl (lookup_relS_keep (by decide) q)
  · exact rel_free q
theorem cg_blk (c : Cg gz X E k) (s : Shared) (H : Hp) (C : Addr) (cl : List (Str × Addr)) (fp : List Addr) (po : PassesOwn (model X.prog X.w) X.A (compEnvC scope cl C X.env) (fun _ _ => False) := PassesOwn.never) : Cg gz (Blk X scope s H C cl fp) E0 k :=
  ⟨c.room, c.gd, c.calm, c.nd, passL, po⟩
theorem to_lc {m : Bool} (mi : MoI wi) (mg : MoG g) (mt : MoT tt) (me : MoE te) (gw : GW X.K (own.map (·.2)) g gv) {σ : L2.St} {H : Hp} {Q : VK} (h : tE X.K E (wLc m wi g tt te (own.map (·.2))) σ H Q) :
    tLc (tI X.K E wi) gv (tT X.K E0 tt) (tE X.K E0 te) (own.map (·.2)) σ H Q := by
  obtain ⟨F, ρ, h0, S, R, q⟩ := h
  refine ⟨F, ρ, h0, S, R, mi _ _ _ _ _ _ (fun xs st h1 z => ?_) (fun _ _ z => z) q⟩
  intro F1 H1 J e1 S1 it D hD
  obtain ⟨f1, g1⟩ := S1.free hD
  have z := z D g1
  refine ⟨fun i n H => n = xs.length - i ∧ i ≤ xs.length ∧ ∃ F2 h2, Ext F1 F2 ∧ Sim X.K F2 h2 H ∧ compD st g tt te (own.map (·.2)) ρ D (xs.drop i) h2 (endL m D (LQ X.K F2 Q)),
    ⟨xs.length, by simp, Nat.zero_le _, F1, _, .refl _, S1.newM hD (o := .lst []) ⟨[], rfl, .nil⟩, compD_mo mg mt me (endL_mo fun _ _ z => LQ.ext e1 z) _ _ (by simpa using z)⟩, ?_⟩
  rintro i n H2 ⟨rfl, hi, F2, h2, e2, S2, z2⟩
  by_cases lt : i < xs.length
  · rw [List.drop_eq_getElem_cons lt] at z2
    obtain ⟨hst, z2⟩ := z2
    refine .inr ⟨it.go e2 S2 hst lt, fun H' => ∃ F3 h3, Ext F1 F3 ∧ Sim X.K F3 h3 H' ∧ compD st g tt te (own.map (·.2)) ρ D (xs.drop (i + 1)) h3 (endL m D (LQ X.K F3 Q)), fun H' p => ⟨xs.length - (i + 1), by omega, rfl, lt, p⟩, fun x H' y => ?_⟩
    obtain ⟨F3, e3, S3, r3⟩ := it.yld e2 S2 hst y (List.getElem?_eq_getElem lt)
    have R3 := (R.ext (e1.trans (e2.trans e3))).wipe (own.map (·.2))
    refine gw.to S3 r3 R3 z2 fun ρ4 σ4 R4 z4 ew => ⟨?_, ?_⟩
    · rw [ew]
      have : ∀ vs : List Nat, L2.wipe (L2.wipe σ vs) vs = L2.wipe σ vs := by
        intro vs
        have key : ∀ (us vs : List Nat), (∀ u ∈ us, u ∈ vs) → L2.wipe (L2.wipe σ us) vs = L2.wipe σ vs := by
          intro us
          induction us with
          | nil => intro vs _; rfl
          | cons u us ih =>
            intro vs hu
            show L2.wipe ((L2.wipe σ us).set u none) vs = _
            rw [wipe_set (hu u (List.mem_cons_self ..)), ih vs fun w hw => hu w (List.mem_cons_of_mem _ hw)]
        exact key vs vs fun _ h => h
      rw [this]
    · refine ⟨F3, ρ4, h2, S3, R4, mt _ _ _ _ _ _ (fun b h5 z5 => ?_) (fun _ _ z => z.elim) z4⟩
      intro F5 H5 e5 S5
      split at z5
      · rename_i cb
        rw [if_pos cb]
        refine ⟨F5, ρ4, h5, S5, R4.ext e5, me _ _ _ _ _ _ (fun y h6 z6 => ?_) (fun _ _ z => z.elim) z5⟩
        intro F6 H6 v6 e6 S6 r6
        obtain ⟨acc, ea, la, z6⟩ := z6
        obtain ⟨fa, u, hu, us, rfl, rs⟩ := S6.ob _ _ ea
        exact ⟨us, hu, by rw [← rs.length]; exact la, F6, _, e2.trans (e3.trans (e5.trans e6)), S6.put ea (o := .lst (acc ++ [y])) ⟨_, rfl, rs.append (.cons r6 .nil)⟩, compD_mo mg mt me (endL_mo fun _ _ z => LQ.ext (e3.trans (e5.trans e6)) z) _ _ z6⟩
      · rename_i cb
        rw [if_neg cb]
        exact ⟨F5, _, e2.trans (e3.trans e5), S5, compD_mo mg mt me (endL_mo fun _ _ z => LQ.ext (e3.trans e5) z) _ _ z5⟩
  · have e : i = xs.length := by omega
    subst e
    rw [List.drop_length] at z2
    exact .inl ⟨it.stop e2 S2 z2.1 rfl, endL_to S2 z2.2⟩
theorem ae_lc (m : Bool) (c : Cg gz X E k) (hi : AI X E tg iter wi) (ok : BlkOk X.N X.env.scope scope own) (gw : GW X.K (own.map (·.2)) g gv)
    (hg : ∀ (s : Shared) (H : Hp) (C : Addr) (cl : List (Str × Addr)) (fp : List Addr), PG (Blk X scope s H C cl fp) tg gv)
    (ht : ∀ (s : Shared) (H : Hp) (C : Addr) (cl : List (Str × Addr)) (fp : List Addr), Cg gz (Blk X scope s H C cl fp) E0 k → ATs (Blk X scope s H C cl fp) E0 ifs tt)
    (he : ∀ (s : Shared) (H : Hp) (C : Addr) (cl : List (Str × Addr)) (fp : List Addr), Cg gz (Blk X scope s H C cl fp) E0 k → AE (Blk X scope s H C cl fp) E0 elt te)
    (hs : ∀ x, foldedSetIterable iter X.env x = pure x := by intro _; rfl) :
    AE X E (.ListComp elt [⟨tg, iter, ifs, 0⟩] scope pos) (wLc m wi g tt te (own.map (·.2))) :=
  have mg := gw.mo
  have mt := (ht X.s_0 X.H_0 0 [] [] (cg_blk c _ _ _ _ _)).mo
  have me := (he X.s_0 X.H_0 0 [] [] (cg_blk c _ _ _ _ _)).mo
  ⟨PE.imp (pe_lc (tt := tT X.K E0 tt) (te := tE X.K E0 te) c.calm c.nd hi.run ok hg (fun s H C cl fp => (ht s H C cl fp (cg_blk c s H C cl fp)).run) (fun s H C cl fp => (he s H C cl fp (cg_blk c s H C cl fp)).run) hs) fun σ H Q h => to_lc hi.mo mg mt me gw h, mo_lc hi.mo mg mt me⟩
theorem as_setLc (m : Bool) (i : Nat) {y : Str} {py spos : Pos} (c : Cg gz X E k) (hi : AI X E tg iter wi) (ok : BlkOk X.N X.env.scope scope own) (gw : GW X.K (own.map (·.2)) g gv)
    (hg : ∀ (s : Shared) (H : Hp) (C : Addr) (cl : List (Str × Addr)) (fp : List Addr), PG (Blk X scope s H C cl fp) tg gv)
    (ht : ∀ (s : Shared) (H : Hp) (C : Addr) (cl : List (Str × Addr)) (fp : List Addr), Cg gz (Blk X scope s H C cl fp) E0 k → ATs (Blk X scope s H C cl fp) E0 ifs tt)
    (he : ∀ (s : Shared) (H : Hp) (C : Addr) (cl : List (Str × Addr)) (fp : List Addr), Cg gz (Blk X scope s H C cl fp) E0 k → AE (Blk X scope s H C cl fp) E0 elt te)
    (hy : X.N[i]? = some y := by rfl) (hyl : X.env.scope.names.lookup y = some .local := by rfl)
    (hsw : swapsWith (.ListComp elt [⟨tg, iter, ifs, 0⟩] scope pos) (some (.Name y py)) spos.line X.env = pure true := by exact sw_true rfl rfl rfl (by decide +kernel))
    (hs : ∀ x, foldedSetIterable iter X.env x = pure x := by intro _; rfl) :
    AS X E (.Assign [.Name y py] (.ListComp elt [⟨tg, iter, ifs, 0⟩] scope pos) spos) (wAsg (wLc m wi g tt te (own.map (·.2))) (gN i)) := by
  have mg := gw.mo
  have mt := (ht X.s_0 X.H_0 0 [] [] (cg_blk c _ _ _ _ _)).mo
  have me := (he X.s_0 X.H_0 0 [] [] (cg_blk c _ _ _ _ _)).mo
  have P := ps_setLc (tt := tT X.K E0 tt) (te := tE X.K E0 te) (spos := spos) (pos := pos) (i := i) c.calm c.nd hy hyl hsw hi.run ok hg (fun s H C cl fp => (ht s H C cl fp (cg_blk c s H C cl fp)).run) (fun s H C cl fp => (he s H C cl fp (cg_blk c s H C cl fp)).run) hs
  have M := mo_lc (m := m) (vs := own.map (·.2)) hi.mo mg mt me
  refine ⟨PS.imp P fun D σ H h => ?_, mo_asg M fun d ρ h Q Q' X X' hq _ q => hq _ _ q⟩
  obtain ⟨F, ρ, h0, S, R, q⟩ := h
  refine to_lc (m := m) hi.mo mg mt me gw ⟨F, ρ, h0, S, R, M _ _ _ _ _ _ (fun x h1 z => ?_) (fun _ _ z => z) q⟩
  intro F1 H1 v e1 S1 r
  exact z F1 H1 _ e1 S1 ((R.ext e1).set r i)
end
end DL
namespace DL
open PySem PySem.Spec L2 C8

/-! ### subscripts -/
def dIx (x y : D) (h : AH) (Q : KD) : Prop := match y with
  | .int i => ∃ xs d, seqOf h x = some xs ∧ atI xs i = some d ∧ Q d h
  | _ => False
theorem Reps.atI {K : PySem.W.Frag} {F : Hp} {xs : List D} {vs : List V} {i : Int} {d : D} (r : Reps K F xs vs) (e : L2.atI xs i = some d) : ∃ v, L2.atI vs i = some v ∧ Rep K F d v := by
  unfold L2.atI at *
  rw [← r.length]
  cases q : ixN xs.length i with
  | none => rw [q] at e; cases e
  | some j =>
    rw [q] at e
    exact r.get (i := j) e
def rIxD2 (K : PySem.W.Frag) : R2 := fun x y H Q => rIxL K x y H Q ∨ rIxT K x y H Q
theorem ix_two {X : Cx} : IxR X (rIxD2 X.K) := IxR.or ix_list ix_tup
theorem dIx_ok {K : PySem.W.Frag} : OpD K (rIxD2 K) dIx where
  to := by
    intro F h H x y vx vy Q S rx ry q
    unfold dIx at q
    split at q
    · obtain ⟨xs, d, e1, e2, q⟩ := q
      cases ry
      obtain ⟨a, vs, rfl, hs, rs⟩ := S.seqOf rx e1
      obtain ⟨v, hv, rv⟩ := rs.atI e2
      rcases hs with hs | hs
      · exact .inl ⟨a, vs, _, v, rfl, rfl, hs, hv, q.at S rv⟩
      · exact .inr ⟨a, vs, _, v, rfl, rfl, hs, hv, q.at S rv⟩
    · exact q.elim
  mo := by
    intro x y h Q Q' hq q
    unfold dIx at *
    split at q
    · obtain ⟨xs, d, e1, e2, q⟩ := q
      exact ⟨xs, d, e1, e2, hq _ _ q⟩
    · exact q.elim
section
variable {X : Cx} {E : XK} {k : Nat} {a b e o i : Expr} {es : List Expr} {wa wb wo wi : WE} {wl : WA} {pos : Pos}
theorem ae_ix (ha : AE X E a wa) (hb : AE X E b wb) (hs : PlainIx b := by exact fun _ _ => rfl) : AE X E (.Subscript a b pos) (wOp dIx wa wb) :=
  ⟨PE.imp (pe_ix ix_two ha.run hb.run hs) fun σ H Q h => two dIx_ok ha hb h, mo_op (dIx_ok (K := X.K)).mo ha.mo hb.mo⟩

/-! ### slices -/
abbrev WO := EnvD → AH → (Option Int → AH → Prop) → KX → Prop
def woNone : WO := fun _ h Q _ => Q none h
def woSome (a : WE) : WO := fun ρ h Q X => a ρ h (fun x h1 => match x with
  | .int i => Q (some i) h1
  | _ => False) X
def MoO (w : WO) : Prop := ∀ ρ h Q Q' X X', (∀ d h, Q d h → Q' d h) → (∀ x h, X x h → X' x h) → w ρ h Q X → w ρ h Q' X'
def LO (K : PySem.W.Frag) (F : Hp) (Q : Option Int → Hp → Prop) : Option Int → AH → Prop := fun b h' => ∀ F' H', Ext F F' → Sim K F' h' H' → Q b H'
structure AO_ (X : Cx) (E : XK) (e : Option Expr) (w : WO) : Prop where
  run : PO X e (fun σ H Q => ∃ F ρ h, Sim X.K F h H ∧ EnvR X.K F ρ σ ∧ w ρ h (LO X.K F Q) (LX X.K F E))
  mo : MoO w
theorem ao_none : AO_ X E none woNone := by
  refine ⟨⟨fun pins s σ H Q I h => ?_⟩, fun ρ h Q Q' X X' hq _ q => hq _ _ q⟩
  obtain ⟨F, ρ, h, S, R, q⟩ := h
  exact po_none.run pins s σ H Q I (q F H (.refl F) S)
theorem ao_some (ha : AE X E a wa) : AO_ X E (some a) (woSome wa) := by
  refine ⟨⟨fun pins s σ H Q I h => ?_⟩, fun ρ h Q Q' X X' hq hx q => ha.mo _ _ _ _ _ _ (fun x h1 z => ?_) hx q⟩
  · obtain ⟨F, ρ, h, S, R, q⟩ := h
    refine (po_some ha.run).run pins s σ H Q I ⟨F, ρ, h, S, R, ha.mo _ _ _ _ _ _ (fun x h1 z => ?_) (fun _ _ z => z) q⟩
    intro F1 H1 v e1 S1 r
    split at z
    · cases r; exact ⟨_, rfl, z F1 H1 e1 S1⟩
    · exact z.elim
  · split at z
    · exact hq _ _ z
    · exact z.elim
def cutD {α : Type} (xs : List α) (lo hi : Option Int) : List α := (xs.drop (HT.sIx xs.length 0 lo)).take (HT.sIx xs.length xs.length hi - HT.sIx xs.length 0 lo)
theorem Reps.cut {K : PySem.W.Frag} {F : Hp} {xs : List D} {vs : List V} (r : Reps K F xs vs) (lo hi : Option Int) : Reps K F (cutD xs lo hi) (cutV vs lo hi) := by
  unfold cutD cutV
  rw [r.length]
  exact (r.drop _).take _
def dSl (m : Bool) (x : D) (lo hi : Option Int) (h : AH) (Q : KD) : Prop := match x with
  | .tup xs => Q (.tup (cutD xs lo hi)) h
  | .str s => s.length ≤ sizeLine ∧ Q (.str (Txt.slice s lo hi)) h
  | .ref a => match h a with
    | some (.lst xs) => newL m (cutD xs lo hi) h Q
    | some (.lck xs) => newL m (cutD xs lo hi) h Q
    | _ => False
  | .lst xs => newL m (cutD xs lo hi) h Q
  | .lk xs => newL m (cutD xs lo hi) h Q
  | _ => False
theorem dSl_mo {m : Bool} {x : D} {lo hi : Option Int} {h : AH} {Q Q' : KD} (hq : ∀ d h, Q d h → Q' d h) (q : dSl m x lo hi h Q) : dSl m x lo hi h Q' := by
  unfold dSl at *
  split at q
  · exact hq _ _ q
  · exact ⟨q.1, hq _ _ q.2⟩
  · split at q
    · exact newL_mo hq q
    · exact newL_mo hq q
    · exact q.elim
  · exact newL_mo hq q
  · exact newL_mo hq q
  · exact q.elim
def wSl (m : Bool) (a : WE) (lo hi : WO) : WE := fun ρ h Q X => a ρ h (fun x h1 => lo ρ h1 (fun l h2 => hi ρ h2 (fun u h3 => dSl m x l u h3 Q) X) X) X
def rSlD (K : PySem.W.Frag) : V → Option Int → Option Int → Hp → VK → Prop := fun x lo hi H Q => rSlA K x lo hi H Q ∨ (rSlX x lo hi H Q ∨ rSlL K x lo hi H Q)
theorem sl_all : SlR X (rSlD X.K) := SlR.or sl_tupA (SlR.or sl_txt sl_list)
theorem cut_whole {α : Type} {xs : List α} {lo hi : Option Int} (h : HT.sIx xs.length 0 lo = 0 ∧ HT.sIx xs.length xs.length hi = xs.length) : cutD xs lo hi = xs := by
  unfold cutD; rw [h.1, h.2]; simp
theorem dSl_to {K : PySem.W.Frag} {F : Hp} {h : AH} {H : Hp} {m : Bool} {x : D} {v : V} {lo hi : Option Int} {Q : VK} (S : Sim K F h H) (r : Rep K F x v) (q : dSl m x lo hi h (LQ K F Q)) : rSlD K v lo hi H Q := by
  unfold dSl at q
  split at q
  · cases r with
    | @tup a xs vs hs rs =>
      refine .inl ⟨a, vs, rfl, sqt_of S.fz hs, fun w => ?_, fun _ => S.newT (rs.cut lo hi) q⟩
      rw [cut_whole (by rw [rs.length]; exact w)] at q
      exact q.at S (.tup hs rs)
  · cases r; exact .inr (.inl ⟨_, rfl, q.1, q.2.at S (.str _)⟩)
  · rename_i a
    cases r
    split at q
    · rename_i xs e
      obtain ⟨_, u, hu, vs, rfl, rs⟩ := S.ob _ _ e
      exact .inr (.inr ⟨a, vs, rfl, .of hu, S.newL (rs.cut lo hi) q⟩)
    · rename_i xs e
      obtain ⟨_, u, hu, o, vs, rfl, rs⟩ := S.ob _ _ e
      exact .inr (.inr ⟨a, vs, rfl, .inl (.inr ⟨o, hu⟩), S.newL (rs.cut lo hi) q⟩)
    · exact q.elim
  · cases r with
    | @lst a xs vs hs rs => exact .inr (.inr ⟨a, vs, rfl, .of (S.fz _ _ hs), S.newL (rs.cut lo hi) q⟩)
  · cases r with
    | @lk a xs vs hs rs => exact .inr (.inr ⟨a, vs, rfl, Ext.sql S.fz hs, S.newL (rs.cut lo hi) q⟩)
  · exact q.elim
theorem ae_sl (m : Bool) {lo hi : Option Expr} {wlo whi : WO} {p2 : Pos} (ha : AE X E a wa) (hl : AO_ X E lo wlo) (hh : AO_ X E hi whi) : AE X E (.Subscript a (.Slice lo hi none p2) pos) (wSl m wa wlo whi) := by
  refine ⟨PE.imp (pe_slice sl_all ha.run hl.run hh.run) fun σ H Q ⟨F, ρ, g, S, R, q⟩ => ?_, fun ρ h Q Q' X X' hq hx q => ha.mo _ _ _ _ _ _ (fun x h1 z => hl.mo _ _ _ _ _ _ (fun l h2 z => hh.mo _ _ _ _ _ _ (fun u h3 z => dSl_mo hq z) hx z) hx z) hx q⟩
  refine ⟨F, ρ, g, S, R, ha.mo _ _ _ _ _ _ (fun x h1 z => ?_) (fun _ _ z => z) q⟩
  intro F1 H1 v e1 S1 r
  refine ⟨F1, ρ, h1, S1, R.ext e1, hl.mo _ _ _ _ _ _ (fun l h2 z => ?_) (fun _ _ z => LX.ext e1 z) z⟩
  intro F2 H2 e2 S2
  refine ⟨F2, ρ, h2, S2, R.ext (e1.trans e2), hh.mo _ _ _ _ _ _ (fun u h3 z => ?_) (fun _ _ z => LX.ext (e1.trans e2) z) z⟩
  intro F3 H3 e3 S3
  exact dSl_to S3 (r.ext (e2.trans e3)) (dSl_mo (fun _ _ z => LQ.ext (e1.trans (e2.trans e3)) z) z)

/-! ### x[i] = v, of a list -/
def gSubL (wo wi : WE) : WG := fun d ρ h Q X => wo ρ h (fun o h1 => wi ρ h1 (fun i h2 => ∃ a xs k j, o = .ref a ∧ i = .int k ∧ h2 a = some (.lst xs) ∧ ixN xs.length k = some j ∧ Q ρ (up h2 a (.lst (xs.set j d)))) X) X
theorem ag_subL (ho : AE X E o wo) (hi : AE X E i wi) (ha : ∀ v, assign (.Subscript o i pos) X.env v = (do
      let ov ← holding [v] (eval o X.env)
      let iv ← holding [v, ov] (eval i X.env)
      standAt pos
      holding [v, ov, iv] (setItem ov iv v)
      release [v, ov, iv] []) := by intro _; rfl) : AG X E (.Subscript o i pos) (gSubL wo wi) := by
  refine ⟨PG.imp (pg_sub ho.run hi.run set_list ha) fun v σ H Q ⟨F, ρ, g, d, S, R, r, q⟩ => ?_, fun d ρ h Q Q' X X' hq hx q => ho.mo _ _ _ _ _ _ (fun x h1 z => hi.mo _ _ _ _ _ _ (fun y h2 ⟨a, xs, k, j, e1, e2, e3, e4, z⟩ => ⟨a, xs, k, j, e1, e2, e3, e4, hq _ _ z⟩) hx z) hx q⟩
  refine ⟨F, ρ, g, S, R, ho.mo _ _ _ _ _ _ (fun x h1 z => ?_) (fun _ _ z => z) q⟩
  intro F1 H1 vo e1 S1 ro
  refine ⟨F1, ρ, h1, S1, R.ext e1, hi.mo _ _ _ _ _ _ (fun y h2 z => ?_) (fun _ _ z => LX.ext e1 z) z⟩
  intro F2 H2 vi e2 S2 ri
  obtain ⟨a, xs, k, j, rfl, rfl, ea, ej, z⟩ := z
  cases ri
  have ro2 := ro.ext e2
  cases ro2
  obtain ⟨_, u, hu, vs, rfl, rs⟩ := S2.ob _ _ ea
  exact ⟨a, vs, k, j, rfl, rfl, hu, by rw [← rs.length]; exact ej, z F2 _ σ (e1.trans e2) (S2.put ea (o := .lst (xs.set j d)) ⟨_, rfl, rs.set (r.ext (e1.trans e2)) j⟩) (R.ext (e1.trans e2))⟩

/-! ### methods of a list that changes it -/
def wMeth (f : D → List D → AH → KD → Prop) (wo : WE) (wl : WA) : WE := fun ρ h Q X => wo ρ h (fun x h1 => wl ρ h1 (fun xs h2 => f x xs h2 Q) X) X
structure MeD (K : PySem.W.Frag) (T : String) (rv : V → List V → Hp → VK → Prop) (f : D → List D → AH → KD → Prop) (ty : D → AH → Prop) : Prop where
  to : ∀ {F h H x xs vx vs} {Q : VK}, Sim K F h H → Rep K F x vx → Reps K F xs vs → f x xs h (LQ K F Q) → rv vx vs H Q
  ty : ∀ {F h H x vx}, Sim K F h H → Rep K F x vx → ty x h → tyV K T vx H
  mo : ∀ {x xs h} {Q Q' : KD}, (∀ d h, Q d h → Q' d h) → f x xs h Q → f x xs h Q'
def wMethT (ty : D → AH → Prop) (f : D → List D → AH → KD → Prop) (wo : WE) (wl : WA) : WE := fun ρ h Q X => wo ρ h (fun x h1 => ty x h1 ∧ wl ρ h1 (fun xs h2 => f x xs h2 Q) X) X
theorem ae_bm {T id : String} {name : Str} {rv : V → List V → Hp → VK → Prop} {f : D → List D → AH → KD → Prop} {ty : D → AH → Prop} {apos cpos : Pos} (M : MeD X.K T rv f ty) (hm : MtR X id rv)
    (pa : PlainAttrs T) (slot : Slot T name id) (hty : typeOf (.builtin id) = pure (.type "method_descriptor")) (ho : AE X E o wo) (ha : AA X E (e :: es) wl)
    (hbase : attributeBase o name X.env (eval o X.env) = eval o X.env := by rfl)
    (hfew : ((backTo cpos (starEach (e :: es) X.env)).all (fun x => !x.1) && (backToKw cpos (keywordEach [] X.env)).all (fun x => x.1.isSome)
      && decide ((e :: es).length + ([] : List Keyword).length + (if ([] : List Keyword).isEmpty then 0 else 1) < 30)) = true := by rfl)
    (hline : (apos.endLine == cpos.line) = true := by rfl) (hs : starEach (e :: es) X.env = (false, eval e X.env) :: starEach es X.env := by rfl) (hplain : (backTo cpos (starEach es X.env)).any (·.1) = false := by rfl) :
    AE X E (.Call (.Attribute o name apos) (e :: es) [] cpos) (wMethT ty f wo wl) := by
  refine ⟨PE.imp (pe_bm pa slot hty hm ho.run ha.run hbase hfew hline hs hplain) fun σ H Q ⟨F, ρ, g, S, R, q⟩ => ?_, fun ρ h Q Q' X X' hq hx q => ho.mo _ _ _ _ _ _ (fun x h1 z => ⟨z.1, ha.mo _ _ _ _ _ _ (fun xs h2 z => M.mo hq z) hx z.2⟩) hx q⟩
  refine ⟨F, ρ, g, S, R, ho.mo _ _ _ _ _ _ (fun x h1 z => ?_) (fun _ _ z => z) q⟩
  intro F1 H1 vx e1 S1 rx
  refine ⟨M.ty S1 rx z.1, F1, ρ, h1, S1, R.ext e1, ha.mo _ _ _ _ _ _ (fun xs h2 z => ?_) (fun _ _ z => LX.ext e1 z) z.2⟩
  intro F2 H2 vs e2 S2 rs
  exact M.to S2 (rx.ext e2) rs (M.mo (fun _ _ z => LQ.ext (e1.trans e2) z) z)
def isL (x : D) (h : AH) : Prop := ∃ xs, lstOf h x = some xs
theorem isL_ty {K : PySem.W.Frag} {F : Hp} {h : AH} {H : Hp} {x : D} {v : V} (S : Sim K F h H) (r : Rep K F x v) (t : isL x h) : tyV K "list" v H := by
  obtain ⟨xs, e⟩ := t
  obtain ⟨a, vs, rfl, ha, _⟩ := S.lstOf r e
  exact .inl ⟨rfl, vs, .of ha⟩
def dAppend (x : D) (ys : List D) (h : AH) (Q : KD) : Prop := ∃ a xs y, x = .ref a ∧ ys = [y] ∧ h a = some (.lst xs) ∧ xs.length < sizeLine ∧ Q .non (up h a (.lst (xs ++ [y])))
theorem dAppend_ok {K : PySem.W.Frag} : MeD K "list" rAppend dAppend isL where
  ty := isL_ty
  mo := fun hq ⟨a, xs, y, e1, e2, e3, e4, q⟩ => ⟨a, xs, y, e1, e2, e3, e4, hq _ _ q⟩
  to := by
    rintro F h H x ys vx vs Q S rx rs ⟨a, xs, y, rfl, rfl, e, l, q⟩
    cases rx
    cases rs with
    | cons r rs =>
      cases rs
      obtain ⟨_, u, hu, us, rfl, ru⟩ := S.ob _ _ e
      exact ⟨a, us, _, rfl, rfl, hu, by rw [← ru.length]; exact l, q F _ _ (.refl F) (S.put e (o := .lst (xs ++ [y])) ⟨_, rfl, ru.append (.cons r .nil)⟩) .non⟩
theorem ae_append {apos cpos : Pos} (ho : AE X E o wo) (ha : AA X E [e] wl) (hbase : attributeBase o "append" X.env (eval o X.env) = eval o X.env := by rfl)
    (hfew : ((backTo cpos (starEach [e] X.env)).all (fun x => !x.1) && (backToKw cpos (keywordEach [] X.env)).all (fun x => x.1.isSome) && decide ([e].length + ([] : List Keyword).length + (if ([] : List Keyword).isEmpty then 0 else 1) < 30)) = true := by rfl)
    (hline : (apos.endLine == cpos.line) = true := by rfl) (hs : starEach [e] X.env = (false, eval e X.env) :: starEach [] X.env := by rfl) (hplain : (backTo cpos (starEach [] X.env)).any (·.1) = false := by rfl) :
    AE X E (.Call (.Attribute o "append" apos) [e] [] cpos) (wMethT isL dAppend wo wl) :=
  ae_bm dAppend_ok mt_append PySem.F.plainAttrs_list PySem.F.slot_list_append PySem.F.type_list_append ho ha hbase hfew hline hs hplain
def dInsert (x : D) (ys : List D) (h : AH) (Q : KD) : Prop := ∃ a xs i y, x = .ref a ∧ ys = [.int i, y] ∧ h a = some (.lst xs) ∧ xs.length < sizeLine ∧ 0 ≤ i ∧ i < 2 ^ 62 ∧ Q .non (up h a (.lst (xs.take i.toNat ++ [y] ++ xs.drop i.toNat)))
def dExtend (x : D) (ys : List D) (h : AH) (Q : KD) : Prop := ∃ a xs y zs, x = .ref a ∧ ys = [y] ∧ h a = some (.lst xs) ∧ lstOf h y = some zs ∧ xs.length + zs.length ≤ sizeLine ∧ Q .non (up h a (.lst (xs ++ zs)))
theorem dExtend_ok {K : PySem.W.Frag} : MeD K "list" rExtend dExtend isL where
  ty := isL_ty
  mo := fun hq ⟨a, xs, y, zs, e1, e2, e3, e4, e5, q⟩ => ⟨a, xs, y, zs, e1, e2, e3, e4, e5, hq _ _ q⟩
  to := by
    rintro F h H x ys vx vs Q S rx rs ⟨a, xs, y, zs, rfl, rfl, e, ez, l, q⟩
    cases rx
    cases rs with
    | cons r rs =>
      cases rs
      obtain ⟨_, u, hu, us, rfl, ru⟩ := S.ob _ _ e
      obtain ⟨b, ws, rfl, hb, rw'⟩ := S.lstOf r ez
      exact ⟨a, b, us, ws, rfl, rfl, hu, hb, by rw [← ru.length, ← rw'.length]; exact l, q F _ _ (.refl F) (S.put e (o := .lst (xs ++ zs)) ⟨_, rfl, ru.append rw'⟩) .non⟩
theorem ae_extend {apos cpos : Pos} (ho : AE X E o wo) (ha : AA X E [e] wl) (hbase : attributeBase o "extend" X.env (eval o X.env) = eval o X.env := by rfl)
    (hfew : ((backTo cpos (starEach [e] X.env)).all (fun x => !x.1) && (backToKw cpos (keywordEach [] X.env)).all (fun x => x.1.isSome) && decide ([e].length + ([] : List Keyword).length + (if ([] : List Keyword).isEmpty then 0 else 1) < 30)) = true := by rfl)
    (hline : (apos.endLine == cpos.line) = true := by rfl) (hs : starEach [e] X.env = (false, eval e X.env) :: starEach [] X.env := by rfl) (hplain : (backTo cpos (starEach [] X.env)).any (·.1) = false := by rfl) :
    AE X E (.Call (.Attribute o "extend" apos) [e] [] cpos) (wMethT isL dExtend wo wl) :=
  ae_bm dExtend_ok mt_extend PySem.F.plainAttrs_list PySem.F.slot_list_extend PySem.F.type_list_extend ho ha hbase hfew hline hs hplain
end

/-! ### built-ins -/
def lenD (h : AH) (x : D) : Option Nat := match cur h x with
  | .tup xs => some xs.length
  | .tpl xs => some xs.length
  | .lst xs => some xs.length
  | .dK xs => some xs.length
  | .str s => some s.length
  | _ => none
def dLen (ds : List D) (h : AH) (Q : KD) : Prop := match ds with
  | [.str s] => s.length ≤ sizeLine ∧ Q (.int s.length) h
  | [x] => ∃ n, lenD h x = some n ∧ Q (.int (n : Nat)) h
  | _ => False
def dAbs (ds : List D) (h : AH) (Q : KD) : Prop := match ds with
  | [.int i] => Q (.int (if i < 0 then -i else i)) h
  | _ => False
def dInt (ds : List D) (h : AH) (Q : KD) : Prop := match ds with
  | [.int i] => Q (.int i) h
  | [.bl b] => Q (.int (if b then 1 else 0)) h
  | _ => False
def dMax2 (ds : List D) (h : AH) (Q : KD) : Prop := match ds with
  | [.int i, .int j] => Q (.int (if j > i then j else i)) h
  | _ => False
def dMin2 (ds : List D) (h : AH) (Q : KD) : Prop := match ds with
  | [.int i, .int j] => Q (.int (if j < i then j else i)) h
  | _ => False
def dSum (ds : List D) (h : AH) (Q : KD) : Prop := ∃ (x : D) (ns : List Int), ds = [x] ∧ lstOf h x = some (ns.map D.int) ∧ Q (.int ns.sum) h
def dMax1 (ds : List D) (h : AH) (Q : KD) : Prop := ∃ (x : D) (ns : List Int), ds = [x] ∧ lstOf h x = some (ns.map D.int) ∧ 0 < ns.length ∧ ∀ m, m ∈ ns → (∀ y ∈ ns, y ≤ m) → Q (.int m) h
def dMin1 (ds : List D) (h : AH) (Q : KD) : Prop := ∃ (x : D) (ns : List Int), ds = [x] ∧ lstOf h x = some (ns.map D.int) ∧ 0 < ns.length ∧ ∀ m, m ∈ ns → (∀ y ∈ ns, m ≤ y) → Q (.int m) h
def dAll (ds : List D) (h : AH) (Q : KD) : Prop := ∃ (x : D) (bs : List Bool), ds = [x] ∧ lstOf h x = some (bs.map D.bl) ∧ Q (.bl (bs.all id)) h
def dAny (ds : List D) (h : AH) (Q : KD) : Prop := ∃ (x : D) (bs : List Bool), ds = [x] ∧ lstOf h x = some (bs.map D.bl) ∧ Q (.bl (bs.any id)) h
def dListOf (m : Bool) (ds : List D) (h : AH) (Q : KD) : Prop := ∃ x xs, ds = [x] ∧ seqOf h x = some xs ∧ newL m xs h Q
def dTupOf (ds : List D) (h : AH) (Q : KD) : Prop := ∃ x xs, ds = [x] ∧ seqOf h x = some xs ∧ Q (.tup xs) h
def tyD (h : AH) (x : D) : Option String := match cur h x with
  | .non => some "NoneType"
  | .bl _ => some "bool"
  | .int _ => some "int"
  | .str _ => some "str"
  | .tup _ => some "tuple"
  | .tpl _ => some "tuple"
  | .lst _ => some "list"
  | .dK _ => some "dict"
  | .dT _ => some "dict"
  | _ => none
def dIsi (ds : List D) (h : AH) (Q : KD) : Prop := ∃ x t n b, ds = [x, .ty n] ∧ tyD h x = some t ∧ L2.kitB t n = some b ∧ Q (.bl b) h
def dRepr (ds : List D) (h : AH) (Q : KD) : Prop := ∃ x, ds = [x] ∧ dat (cur h x) = true ∧ (pd (cur h x)).showable = true ∧ (pd (cur h x)).depth ≤ 60 ∧ (pd (cur h x)).shown.length ≤ sizeLine ∧ Q (.str (pd (cur h x)).shown) h
end DL
namespace DL
open PySem PySem.Spec L2 C8

section
variable {K : PySem.W.Frag} {F : Hp} {h : AH} {H : Hp}
theorem Reps.one {d : D} {vs : List V} (r : Reps K F [d] vs) : ∃ v, vs = [v] ∧ Rep K F d v := by
  cases r with | cons r rs => cases rs; exact ⟨_, rfl, r⟩
theorem Reps.two {d e : D} {vs : List V} (r : Reps K F [d, e] vs) : ∃ v w, vs = [v, w] ∧ Rep K F d v ∧ Rep K F e w := by
  cases r with | cons r rs => cases rs with | cons q qs => cases qs; exact ⟨_, _, rfl, r, q⟩
theorem Reps.ints : ∀ {ns : List Int} {vs : List V}, Reps K F (ns.map D.int) vs → vs = ns.map V.int
  | [], _, .nil => rfl
  | n :: ns, _, .cons r t => by cases r; rw [Reps.ints t]; rfl
theorem Reps.bls : ∀ {ns : List Bool} {vs : List V}, Reps K F (ns.map D.bl) vs → vs = ns.map V.bl
  | [], _, .nil => rfl
  | n :: ns, _, .cons r t => by cases r; rw [Reps.bls t]; rfl
theorem Sim.intsOf {x : D} {v : V} {ns : List Int} (S : Sim K F h H) (r : Rep K F x v) (e : DL.lstOf h x = some (ns.map D.int)) : ∃ a, v = .ref a ∧ SqL K H a (ns.map V.int) := by
  obtain ⟨a, vs, rfl, ha, rs⟩ := S.lstOf r e
  rw [rs.ints] at ha
  exact ⟨a, rfl, .of ha⟩
end
section
variable {X : Cx}
theorem dAbs_ok : CaD X (.builtin "abs") dAbs where
  ex := ⟨_, call_abs, fun {F h H ds vs Q} S r q => by
    unfold dAbs at q; split at q
    · obtain ⟨v, rfl, r1⟩ := r.one; cases r1; exact ⟨_, rfl, q.at S (.int _)⟩
    · exact q.elim⟩
  mo := fun {ds h Q Q'} hq q => by
    unfold dAbs at *; split at q
    · exact hq _ _ q
    · exact q.elim
theorem dInt_ok : CaD X (.type "int") dInt where
  ex := ⟨_, call_int1, fun {F h H ds vs Q} S r q => by
    unfold dInt at q; split at q
    · obtain ⟨v, rfl, r1⟩ := r.one; cases r1; exact .inl ⟨_, rfl, q.at S (.int _)⟩
    · obtain ⟨v, rfl, r1⟩ := r.one; cases r1; exact .inr ⟨_, rfl, q.at S (.int _)⟩
    · exact q.elim⟩
  mo := fun {ds h Q Q'} hq q => by
    unfold dInt at *; split at q
    · exact hq _ _ q
    · exact hq _ _ q
    · exact q.elim
theorem dMax2_ok (hc : X.calm = true) : CaD X (.builtin "max") dMax2 where
  ex := ⟨_, call_max2 hc, fun {F h H ds vs Q} S r q => by
    unfold dMax2 at q; split at q
    · obtain ⟨v, w, rfl, r1, r2⟩ := r.two; cases r1; cases r2; exact ⟨_, _, rfl, q.at S (.int _)⟩
    · exact q.elim⟩
  mo := fun {ds h Q Q'} hq q => by
    unfold dMax2 at *; split at q
    · exact hq _ _ q
    · exact q.elim
theorem dMin2_ok (hc : X.calm = true) : CaD X (.builtin "min") dMin2 where
  ex := ⟨_, call_min2 hc, fun {F h H ds vs Q} S r q => by
    unfold dMin2 at q; split at q
    · obtain ⟨v, w, rfl, r1, r2⟩ := r.two; cases r1; cases r2; exact ⟨_, _, rfl, q.at S (.int _)⟩
    · exact q.elim⟩
  mo := fun {ds h Q Q'} hq q => by
    unfold dMin2 at *; split at q
    · exact hq _ _ q
    · exact q.elim
theorem dSum_ok (hc : X.calm = true) : CaD X (.builtin "sum") dSum where
  ex := ⟨_, cr_sum hc, fun {F h H ds vs Q} S r q => by
    obtain ⟨x, ns, rfl, e, q⟩ := q
    obtain ⟨v, rfl, r1⟩ := r.one
    obtain ⟨a, rfl, ha⟩ := S.intsOf r1 e
    exact ⟨a, ns, rfl, ha, q.at S (.int _)⟩⟩
  mo := fun {ds h Q Q'} hq ⟨x, ns, e, e2, q⟩ => ⟨x, ns, e, e2, hq _ _ q⟩
theorem dMax1_ok (hc : X.calm = true) : CaD X (.builtin "max") dMax1 where
  ex := ⟨_, cr_max hc, fun {F h H ds vs Q} S r q => by
    obtain ⟨x, ns, rfl, e, l, q⟩ := q
    obtain ⟨v, rfl, r1⟩ := r.one
    obtain ⟨a, rfl, ha⟩ := S.intsOf r1 e
    exact ⟨a, ns, rfl, ha, l, fun m hm hy => (q m hm hy).at S (.int _)⟩⟩
  mo := fun {ds h Q Q'} hq ⟨x, ns, e, e2, l, q⟩ => ⟨x, ns, e, e2, l, fun m hm hy => hq _ _ (q m hm hy)⟩
theorem dMin1_ok (hc : X.calm = true) : CaD X (.builtin "min") dMin1 where
  ex := ⟨_, cr_min hc, fun {F h H ds vs Q} S r q => by
    obtain ⟨x, ns, rfl, e, l, q⟩ := q
    obtain ⟨v, rfl, r1⟩ := r.one
    obtain ⟨a, rfl, ha⟩ := S.intsOf r1 e
    exact ⟨a, ns, rfl, ha, l, fun m hm hy => (q m hm hy).at S (.int _)⟩⟩
  mo := fun {ds h Q Q'} hq ⟨x, ns, e, e2, l, q⟩ => ⟨x, ns, e, e2, l, fun m hm hy => hq _ _ (q m hm hy)⟩
theorem dAll_ok (hc : X.calm = true) : CaD X (.builtin "all") dAll where
  ex := ⟨_, cr_all hc, fun {F h H ds vs Q} S r q => by
    obtain ⟨x, ns, rfl, e, q⟩ := q
    obtain ⟨v, rfl, r1⟩ := r.one
    obtain ⟨a, us, rfl, ha, rs⟩ := S.lstOf r1 e
    rw [rs.bls] at ha
    exact ⟨a, ns, rfl, .of ha, q.at S (.bl _)⟩⟩
  mo := fun {ds h Q Q'} hq ⟨x, ns, e, e2, q⟩ => ⟨x, ns, e, e2, hq _ _ q⟩
theorem dAny_ok (hc : X.calm = true) : CaD X (.builtin "any") dAny where
  ex := ⟨_, cr_any hc, fun {F h H ds vs Q} S r q => by
    obtain ⟨x, ns, rfl, e, q⟩ := q
    obtain ⟨v, rfl, r1⟩ := r.one
    obtain ⟨a, us, rfl, ha, rs⟩ := S.lstOf r1 e
    rw [rs.bls] at ha
    exact ⟨a, ns, rfl, .of ha, q.at S (.bl _)⟩⟩
  mo := fun {ds h Q Q'} hq ⟨x, ns, e, e2, q⟩ => ⟨x, ns, e, e2, hq _ _ q⟩
theorem dListOf_ok {m : Bool} : CaD X (.type "list") (dListOf m) where
  ex := ⟨_, call_list_of, fun {F h H ds vs Q} S r q => by
    obtain ⟨x, xs, rfl, e, q⟩ := q
    obtain ⟨v, rfl, r1⟩ := r.one
    obtain ⟨a, us, rfl, ha, rs⟩ := S.seqOf r1 e
    exact ⟨a, us, rfl, ha, S.newL rs q⟩⟩
  mo := fun {ds h Q Q'} hq ⟨x, ns, e, e2, q⟩ => ⟨x, ns, e, e2, newL_mo hq q⟩
theorem dTupOf_ok : CaD X (.type "tuple") dTupOf where
  ex := ⟨_, call_tuple_of, fun {F h H ds vs Q} S r q => by
    obtain ⟨x, xs, rfl, e, q⟩ := q
    obtain ⟨v, rfl, r1⟩ := r.one
    by_cases c : ∃ ys, x = .tup ys
    · obtain ⟨ys, rfl⟩ := c
      cases e
      cases r1 with
      | @tup a _ ws hs rs => exact ⟨a, ws, rfl, .inr ⟨sqt_of S.fz hs, q.at S (.tup hs rs)⟩⟩
    by_cases c2 : ∃ ys, x = .tpl ys
    · obtain ⟨ys, rfl⟩ := c2
      cases e
      cases r1 with
      | @tpl a _ _ ws hs _ rs => exact ⟨a, ws, rfl, .inr ⟨sqt_of S.fz (.inl (.inr ⟨_, hs⟩)), q.at S (.tup (.inl (.inr ⟨_, hs⟩)) rs)⟩⟩
    · have e' : lstOf h x = some xs := by
        cases x <;> first | exact e | exact absurd ⟨_, rfl⟩ c | exact absurd ⟨_, rfl⟩ c2
      obtain ⟨a, us, rfl, ha, rs⟩ := S.lstOf r1 e'
      exact ⟨a, us, rfl, .inl ⟨.of ha, S.newT rs q⟩⟩⟩
  mo := fun {ds h Q Q'} hq ⟨x, ns, e, e2, q⟩ => ⟨x, ns, e, e2, hq _ _ q⟩
def rLenD (K : PySem.W.Frag) : List V → Hp → VK → Prop := fun xs H Q => (∃ z, xs = [V.str z] ∧ z.length ≤ sizeLine ∧ Q (.int z.length) H) ∨ ((∃ p ys, xs = [V.ref p] ∧ (SqL K H p ys ∨ SqT K H p ys) ∧ Q (.int ys.length) H) ∨ ∃ a kvs, xs = [V.ref a] ∧ H a = some (.dK kvs) ∧ Q (.int kvs.length) H)
theorem RepK.length {K : PySem.W.Frag} {F : Hp} : ∀ {xs : List (Key × D)} {vs : List (Key × V)}, RepK K F xs vs → xs.length = vs.length
  | _, _, .nil => rfl
  | _, _, .cons _ t => by simp [RepK.length t]
theorem dLen_ok : CaD X (.builtin "len") dLen where
  ex := ⟨rLenD X.K, CallR.or call_len_str (CallR.or call_len_seq call_lenD), fun {F h H ds vs Q} S r q => by
    unfold dLen at q
    split at q
    · obtain ⟨v, rfl, r1⟩ := r.one; cases r1
      exact .inl ⟨_, rfl, q.1, q.2.at S (.int _)⟩
    · obtain ⟨n, e, q⟩ := q
      obtain ⟨v, rfl, r1⟩ := r.one
      cases r1 with
      | ref a =>
        cases ea : h a with
        | none => simp [lenD, cur, ea] at e
        | some o =>
          obtain ⟨_, u, hu, ro⟩ := S.ob _ _ ea
          cases o with
          | lst xs =>
            obtain ⟨us, rfl, rs⟩ := ro
            simp only [lenD, cur, ea, Option.some.injEq] at e
            subst e
            exact .inr (.inl ⟨a, us, rfl, .inl (.of hu), by rw [← rs.length]; exact q.at S (.int _)⟩)
          | dK xs =>
            obtain ⟨us, rfl, rs⟩ := ro
            simp only [lenD, cur, ea, Option.some.injEq] at e
            subst e
            exact .inr (.inr ⟨a, us, rfl, hu, by rw [← rs.length]; exact q.at S (.int _)⟩)
          | dT _ => simp [lenD, cur, ea] at e
          | ins _ _ => simp [lenD, cur, ea] at e
          | lck _ => simp [lenD, cur, ea] at e
      | @tup a xs us hs rs =>
        simp only [lenD, cur, Option.some.injEq] at e
        subst e
        exact .inr (.inl ⟨a, us, rfl, .inr (sqt_of S.fz hs), by rw [← rs.length]; exact q.at S (.int _)⟩)
      | @tpl a ob xs us hs hd rs =>
        simp only [lenD, cur, Option.some.injEq] at e
        subst e
        exact .inr (.inl ⟨a, us, rfl, .inr (sqt_of S.fz (.inl (.inr ⟨_, hs⟩))), by rw [← rs.length]; exact q.at S (.int _)⟩)
      | @lst a xs us hs rs =>
        simp only [lenD, cur, Option.some.injEq] at e
        subst e
        exact .inr (.inl ⟨a, us, rfl, .inl (.of (S.fz _ _ hs)), by rw [← rs.length]; exact q.at S (.int _)⟩)
      | @dK a xs us hs rs =>
        simp only [lenD, cur, Option.some.injEq] at e
        subst e
        exact .inr (.inr ⟨a, us, rfl, S.fz _ _ hs, by rw [← rs.length]; exact q.at S (.int _)⟩)
      | dT _ _ => simp [lenD, cur] at e
      | str s => rename_i hn; exact absurd rfl (hn s)
      | non => simp [lenD, cur] at e
      | bl _ => simp [lenD, cur] at e
      | int _ => simp [lenD, cur] at e
      | ty _ => simp [lenD, cur] at e
      | lk _ _ => simp [lenD, cur] at e
      | ob _ _ => simp [lenD, cur] at e
    · exact q.elim⟩
  mo := fun {ds h Q Q'} hq q => by
    unfold dLen at *; split at q
    · exact ⟨q.1, hq _ _ q.2⟩
    · obtain ⟨n, e, q⟩ := q; exact ⟨n, e, hq _ _ q⟩
    · exact q.elim
/-- the type of a value -/
theorem Sim.tyD {K : PySem.W.Frag} {F : Hp} {h : AH} {H : Hp} {x : D} {v : V} {t : String} (S : Sim K F h H) (r : Rep K F x v) (e : DL.tyD h x = some t) : TyX K H v (.type t) := by
  cases r with
  | ref a =>
    cases ea : h a with
    | none => simp [DL.tyD, cur, ea] at e
    | some o =>
      obtain ⟨_, u, hu, ro⟩ := S.ob _ _ ea
      cases o with
      | lst xs => obtain ⟨us, rfl, rs⟩ := ro; simp only [DL.tyD, cur, ea, Option.some.injEq] at e; subst e; exact .base (.lst hu)
      | dK xs => obtain ⟨us, rfl, rs⟩ := ro; simp only [DL.tyD, cur, ea, Option.some.injEq] at e; subst e; exact .base (.dK hu)
      | dT xs => obtain ⟨us, rfl, rs⟩ := ro; simp only [DL.tyD, cur, ea, Option.some.injEq] at e; subst e; exact .base (.dT hu)
      | ins _ _ => simp [DL.tyD, cur, ea] at e
      | lck _ => simp [DL.tyD, cur, ea] at e
  | non => simp only [DL.tyD, cur, Option.some.injEq] at e; subst e; exact .base .non
  | bl b => simp only [DL.tyD, cur, Option.some.injEq] at e; subst e; exact .base (.bl b)
  | int i => simp only [DL.tyD, cur, Option.some.injEq] at e; subst e; exact .base (.int i)
  | str s => simp only [DL.tyD, cur, Option.some.injEq] at e; subst e; exact .base (.str s)
  | ty n => simp [DL.tyD, cur] at e
  | lk _ _ => simp [DL.tyD, cur] at e
  | ob _ _ => simp [DL.tyD, cur] at e
  | tup hs rs =>
    simp only [DL.tyD, cur, Option.some.injEq] at e; subst e
    rcases sqt_of S.fz hs with (q | ⟨o, q⟩) | ⟨o, its, n, q, c, _⟩
    · exact .base (.tup q)
    · exact .fTuple q
    · exact .kTuple q c
  | tpl hs hd rs => simp only [DL.tyD, cur, Option.some.injEq] at e; subst e; exact .fTuple (S.fz _ _ hs)
  | lst hs rs => simp only [DL.tyD, cur, Option.some.injEq] at e; subst e; exact .base (.lst (S.fz _ _ hs))
  | dK hs rs => simp only [DL.tyD, cur, Option.some.injEq] at e; subst e; exact .base (.dK (S.fz _ _ hs))
  | dT hs rs => simp only [DL.tyD, cur, Option.some.injEq] at e; subst e; exact .base (.dT (S.fz _ _ hs))
theorem dIsi_ok : CaD X (.builtin "isinstance") dIsi where
  ex := ⟨_, call_isi, fun {F h H ds vs Q} S r q => by
    obtain ⟨x, t, n, b, rfl, et, eb, q⟩ := q
    obtain ⟨v, w, rfl, r1, r2⟩ := r.two
    cases r2
    exact ⟨v, .ty n, .type t, .type n, b, rfl, .ty n, S.tyD r1 et, kit_ty eb, q.at S (.bl _)⟩⟩
  mo := fun {ds h Q Q'} hq ⟨x, t, n, b, e, e1, e2, q⟩ => ⟨x, t, n, b, e, e1, e2, hq _ _ q⟩
/-! ### repr -/
theorem call_reprD (hg : X.A.guards = some []) (hu : X.A.units + 64 < cLine) : CallR X (.builtin "repr") (fun vs H Q => ∃ x d, vs = [x] ∧ Dp X.K H x d ∧ d.hasDict = false ∧ d.showable = true ∧ d.depth ≤ 60 ∧ d.shown.length ≤ sizeLine ∧ Q (.str d.shown) H) := by
  intro pins s σ H xs us Q I r h
  obtain ⟨x, d, rfl, hd, hn, hs, dp, hz, q⟩ := h
  obtain ⟨u, rfl, rx⟩ : ∃ u, us = [u] ∧ RelV x u := by cases r with | cons r t => cases t; exact ⟨_, rfl, r⟩
  obtain ⟨as, rd⟩ := Dp.reads I d x u hd rx
  cases rd with
  | none => exact PySem.P.repr_of_none ⟨.str _, H, I.tok _, ⟨_, rfl⟩, by rw [PyData.shown] at q; exact q⟩
  | bool b => exact PySem.P.repr_of_bool ⟨.str _, H, I.tok _, ⟨_, rfl⟩, by rw [PyData.shown] at q; exact q⟩
  | int i t =>
    refine PySem.P.repr_of_int (by rw [PyData.showable] at hs; exact of_decide_eq_true hs) ⟨.str _, H, I.tok _, ⟨_, rfl⟩, by rw [PyData.shown] at q; exact q⟩
  | str x t => exact PySem.P.repr_of_str ⟨.str _, H, I.tok _, ⟨_, rfl⟩, by rw [PyData.shown] at q; exact q⟩ (by rw [PyData.shown] at hz; exact hz)
  | list a b c e => exact repr_of_reads' (.list a b c e) hs (fun z => by rw [hn] at z; cases z) hg (by omega) (fun _ _ z => z) (fun h' u tk k => ⟨.str _, H, I.kept k, ⟨_, rfl⟩, q⟩) hz
  | tuple a b c e => exact repr_of_reads' (.tuple a b c e) hs (fun z => by rw [hn] at z; cases z) hg (by omega) (fun _ _ z => z) (fun h' u tk k => ⟨.str _, H, I.kept k, ⟨_, rfl⟩, q⟩) hz
  | dict _ _ _ _ _ => cases hd
mutual
theorem noDict : ∀ d : D, (pd d).hasDict = false
  | .non => by rw [pd, PyData.hasDict]
  | .bl _ => by rw [pd, PyData.hasDict]
  | .int _ => by rw [pd, PyData.hasDict]
  | .str _ => by rw [pd, PyData.hasDict]
  | .tup xs => by rw [pd, PyData.hasDict]; exact noDicts xs
  | .tpl xs => by rw [pd, PyData.hasDict]; exact noDicts xs
  | .lst xs => by rw [pd, PyData.hasDict]; exact noDicts xs
  | .ref _ => by rw [pd, PyData.hasDict]
  | .ty _ => by rw [pd, PyData.hasDict]
  | .lk _ => by rw [pd, PyData.hasDict]
  | .ob _ _ => by rw [pd, PyData.hasDict]
  | .dK _ => by rw [pd, PyData.hasDict]
  | .dT _ => by rw [pd, PyData.hasDict]
theorem noDicts : ∀ ds : List D, PyData.hasDictAll (pds ds) = false
  | [] => by rw [pds, PyData.hasDictAll]
  | d :: ds => by rw [pds, PyData.hasDictAll, noDict d, noDicts ds]; rfl
end
theorem dRepr_ok (hg : X.A.guards = some []) (hu : X.A.units + 64 < cLine) : CaD X (.builtin "repr") dRepr where
  ex := ⟨_, call_reprD hg hu, fun {F h H ds vs Q} S r q => by
    obtain ⟨x, rfl, e1, e2, e3, e4, q⟩ := q
    obtain ⟨v, rfl, r1⟩ := r.one
    exact ⟨v, _, rfl, S.curDp r1 e1, noDict _, e2, e3, e4, q.at S (.str _)⟩⟩
  mo := fun {ds h Q Q'} hq ⟨x, e, e1, e2, e3, e4, q⟩ => ⟨x, e, e1, e2, e3, e4, hq _ _ q⟩
end
end DL
namespace DL
open PySem PySem.Spec L2 C8

/-! ### one more built-in runs around -/
abbrev inX (X : Cx) : Cx := { X with A := X.A.in1 }
theorem ok_in {X : Cx} (ok : X.Ok) : (inX X).Ok :=
  ⟨ok.mod, ok.kind, ok.glob, ok.blt, ok.above, ok.inj, ok.has, ok.cab, ok.hd, ok.frames, ok.stk, ok.exf, ok.bs, ok.bsz, ok.noex, ok.exfs, ok.funs, ok.frf⟩
theorem ok_out {X : Cx} (ok : (inX X).Ok) : X.Ok :=
  ⟨ok.mod, ok.kind, ok.glob, ok.blt, ok.above, ok.inj, ok.has, ok.cab, ok.hd, ok.frames, ok.stk, ok.exf, ok.bs, ok.bsz, ok.noex, ok.exfs, ok.funs, ok.frf⟩
section
variable {X : Cx} {pins : List (Addr × Obj)} {σ : L2.St} {H : Hp} {s : Shared}
theorem inv_in (I : Inv X pins σ H s) : Inv (inX X) pins σ H s := ⟨ok_in I.ok, I.os, I.bare, I.base, I.loc, I.cell, I.free, I.freeC, I.pin, I.hok, I.len⟩
theorem inv_out (I : Inv (inX X) pins σ H s) : Inv X pins σ H s := ⟨ok_out I.ok, I.os, I.bare, I.base, I.loc, I.cell, I.free, I.freeC, I.pin, I.hok, I.len⟩
end

/-! ### d.items() as a value, d with keys that are ints or texts -/
def rItemsV : V → List V → Hp → VK → Prop := fun x xs H Q => ∃ (a : Addr) (kvs : List (Key × V)), x = .ref a ∧ xs = [] ∧ H a = some (.dK kvs) ∧ ∀ p, H p = none → Q (.ref p) (upd H p (L2.DX.itemsO p a))
section
variable {X : Cx}
theorem mt_itemsV : MtR X "dict.items" rItemsV := by
  intro pins s σ H x xs v us Q I rx rs h
  obtain ⟨a, kvs, rfl, rfl, ha, q⟩ := h
  cases rx
  cases rs
  obtain ⟨z, hd, vs, kv, o, es, ep, ho, hx, hdt, _⟩ := dk_of I.hok ha
  have hf : H s.heap.objs.size = none := I.hok.fresh (Nat.le_refl _)
  refine DT.callItems (es := es) (ep := ep) hd ⟨o, ho, hx, hdt⟩ ?_
  exact ⟨.ref s.heap.objs.size, _, I.laid (t' := s.toks) (fun b u e => Heap.get?_push_of_some _ e) (Nat.le_refl _) (L2.DX.itemsO_ok (Heap.get?_push_size _ rfl)), rfl, q _ hf⟩

/-- sorted of the view p of a dict whose keys and values are ints -/
def rSortIt : List V → Hp → VK → Prop := fun vs H Q => ∃ (p a : Addr) (es : List (Int × Int)), vs = [.ref p] ∧ H p = some (L2.DX.itemsO p a) ∧ H a = some (.dK (es.map fun e => (Sum.inl e.1, V.int e.2))) ∧
  ∀ (H' : Hp) (l : Addr) (ps : List (Addr × Int × Int)), (∀ b o, H b = some o → H' b = some o) → H l = none → (∀ z ∈ ps, z.1 ≠ l ∧ H z.1 = none) → (ps.map (·.2)).Perm es → (ps.map (·.2)).Pairwise (fun e f => e.1 < f.1 ∨ (e.1 = f.1 ∧ e.2 ≤ f.2)) →
    H' l = some (.lst (ps.map fun z => V.ref z.1)) → (∀ z ∈ ps, H' z.1 = some (.tup [.int z.2.1, .int z.2.2])) → Q (.ref l) H'
/-- entries of such a dict -/
theorem ents_of {P : Program} {w : World} : ∀ {es : List (Int × Int)} {vs : List (Key × Value)} {en : List DictEntry}, KV (es.map fun e => ((Sum.inl e.1 : Key), V.int e.2)) vs → Pairs (mixKind P w) en vs →
    en.length = es.length ∧ ∀ (j : Nat) (e : DictEntry), en[j]? = some e → ∃ (x : Int × Int) (t u : Tok), es[j]? = some x ∧ e.key = .int x.1 t ∧ e.val = .int x.2 u
  | [], _, _, .nil, .nil => ⟨rfl, fun j e h => by simp at h⟩
  | x :: es, _, _, .cons h1 h2, .cons k1 k2 k3 => by
    obtain ⟨l, ih⟩ := ents_of h2 k3
    refine ⟨by simp [l], fun j e hj => ?_⟩
    cases j with
    | zero =>
      simp only [List.getElem?_cons_zero, Option.some.injEq] at hj
      subst hj
      obtain ⟨e1, u, e2⟩ := h1
      rw [← e1] at k1
      have k1 : keyIs (Sum.inl x.1) _ = true := k1
      rcases keyIs_shape k1 with ⟨i, t, ei, ek⟩ | ⟨y, t, ei, ek⟩
      · cases ei
        exact ⟨x, t, u, rfl, ek, k2.trans e2⟩
      · cases ei
    | succ j => exact ih j e hj
def kOf (H : Hp) : V → Int × Int
  | .ref t => match H t with
    | some (.tup [.int i, .int j]) => (i, j)
    | _ => (0, 0)
  | _ => (0, 0)
theorem kOf_at {H : Hp} {t : Addr} {i j : Int} (h : H t = some (.tup [.int i, .int j])) : kOf H (.ref t) = (i, j) := by
  simp [kOf, h]
theorem cr_sortIt (hc : X.calm = true) : CallR X (.builtin "sorted") rSortIt := by
  intro pins s σ H xs us Q I r h
  obtain ⟨p, a, es, rfl, hp, ha, q⟩ := h
  obtain rfl := Vals.ref1 r
  have view : s.heap.IsItemsView p a := (show ObjOk X.prog X.w H s.heap p (L2.DX.itemsO p a) from I.hok p _ hp).1
  obtain ⟨z, hd, vs, kv, o, en, ep, ho, hx, hdt, hk, hpr, nd⟩ := dk_of I.hok ha
  rw [List.length_map] at z
  obtain ⟨len, ent⟩ := ents_of kv hpr
  have lsz : en.size = es.length := by rw [← len]; simp
  refine DT.sortedI (es := en) (ep := ep) (I.ok.hd hc) view ⟨o, ho, hx, hdt⟩ (by rw [lsz]; exact z) fun h' tk as hk' hlt hl hG => ?_
  have I1 : Inv X pins σ H { s with heap := h', toks := tk } := I.kept hk'
  have nda : as.Nodup := List.Pairwise.imp (fun h => Nat.ne_of_lt h) hG.rise
  have lss : sizeLine = 16777216 := sizeLine_eq
  -- the pairs
  have pr : ∀ (j : Nat) (b : Addr), as[j]? = some b → ∃ (x : Int × Int) (t u : Tok), es[j]? = some x ∧ h'.get? b = some { cls := .type "tuple", data := .seq #[.int x.1 t, .int x.2 u] } := by
    intro j b hj
    obtain ⟨e, he, hg⟩ := hG.pairs j b hj
    obtain ⟨x, t, u, hx, ek, ev⟩ := ent j e (by simpa using he)
    rw [ek, ev] at hg
    exact ⟨x, t, u, hx, hg⟩
  obtain ⟨H2, I2, sm, tup⟩ := L2.DX.takeT (P := fun b ws => ∃ (j : Nat) (x : Int × Int), as[j]? = some b ∧ es[j]? = some x ∧ ws = [V.int x.1, V.int x.2]) I as H I1 nda fun b hb => by
    obtain ⟨j, hj⟩ := List.mem_iff_getElem?.mp hb
    obtain ⟨x, t, u, hx, hg⟩ := pr j b hj
    have hbl : s.heap.objs.size ≤ b := Nat.le_of_lt (hG.above b hb)
    exact ⟨hbl, I.hok.fresh hbl, _, ⟨j, x, hj, hx, rfl⟩, fun H3 => ⟨by rw [lss]; show 2 ≤ 16777216; omega, _, .cons ⟨_, rfl⟩ (.cons ⟨_, rfl⟩ .nil), ⟨_, hg, rfl, 0, rfl⟩⟩⟩
  have fresh : H2 h'.objs.size = none := I2.hok.fresh (Nat.le_refl _)
  have below : ∀ b ∈ as, b ≠ h'.objs.size := fun b hb e => by
    obtain ⟨_, _, z⟩ := tup b hb
    rw [e, fresh] at z; cases z
  have lv : Vals (as.map V.ref) (as.map Value.ref) := by
    clear nda pr tup below hG hl
    induction as with
    | nil => exact .nil
    | cons b bs ih => exact .cons rfl ih
  have I3 := I2.lnew (t' := tk) lv (by rw [List.length_map, hl, lsz]; exact z)
  -- the pairs' ints
  have tp : ∀ b ∈ as, ∃ (j : Nat) (x : Int × Int), as[j]? = some b ∧ es[j]? = some x ∧ H2 b = some (.tup [.int x.1, .int x.2]) := fun b hb => by
    obtain ⟨ws, ⟨j, x, h1, h2, rfl⟩, e⟩ := tup b hb
    exact ⟨j, x, h1, h2, e⟩
  refine wpAny_mono (mt_sortPO (X := inX X) pins _ σ _ (.ref h'.objs.size) [] (.ref h'.objs.size) [] (fun v H4 => v = .non ∧ ∃ zs, SrtO.Srtd (ltP (kOf H2)) zs ∧ SrtO.Stb (ltP (kOf H2)) zs (as.map V.ref) ∧ H4 = upd (upd H2 h'.objs.size (.lst (as.map V.ref))) h'.objs.size (.lst zs)) (inv_in I3) rfl .nil
    ⟨h'.objs.size, as.map V.ref, kOf H2, rfl, rfl, upd_same, fun y hy => ?_, fun zs h1 h2 => ⟨rfl, zs, h1, h2, rfl⟩⟩) (fun u s' hq => ?_) fun _ _ z => z
  · obtain ⟨b, hb, rfl⟩ := List.mem_map.mp hy
    obtain ⟨j, x, _, _, e⟩ := tp b hb
    refine ⟨b, rfl, ?_⟩
    rw [upd_ne (below b hb), kOf_at e]
    exact e
  · obtain ⟨v, H4, I4, rv, rfl, zs, h1, h2, rfl⟩ := hq
    have mem : ∀ y ∈ zs, ∃ b ∈ as, y = V.ref b := fun y hy => by
      obtain ⟨b, hb, e⟩ := List.mem_map.mp (h2.perm.mem_iff.mp hy)
      exact ⟨b, hb, e.symm⟩
    -- zs as addresses
    let f : V → Addr × Int × Int := fun y => match y with | .ref b => (b, kOf H2 (.ref b)) | _ => (0, 0, 0)
    have fz : ∀ y ∈ zs, V.ref (f y).1 = y := fun y hy => by obtain ⟨b, _, rfl⟩ := mem y hy; rfl
    have perm : ((zs.map f).map (·.2)).Perm es := by
      have e1 : ((as.map V.ref).map f).map (·.2) = es := by
        apply List.ext_getElem?
        intro j
        simp only [List.map_map, List.getElem?_map]
        cases ej : as[j]? with
        | none =>
          have : es.length ≤ j := by rw [← lsz, ← hl]; exact List.getElem?_eq_none_iff.mp ej
          rw [List.getElem?_eq_none this]; rfl
        | some b =>
          obtain ⟨x, t, u, hx, _⟩ := pr j b ej
          obtain ⟨j2, x2, g1, g2, g3⟩ := tp b (List.mem_of_getElem? ej)
          have : j2 = j := (List.getElem?_inj (List.getElem?_eq_some_iff.mp g1).1 nda).mp (g1.trans ej.symm)
          subst this
          rw [g2] at hx; cases hx
          rw [g2]
          show some (kOf H2 (.ref b)) = some _
          rw [kOf_at g3]
      rw [← e1]
      exact (h2.perm.map f).map _
    refine ⟨.ref h'.objs.size, _, inv_out I4, rfl, q _ _ (zs.map f) (fun b o e => ?_) (by
        cases e : H h'.objs.size with
        | none => rfl
        | some o => rw [sm _ _ e] at fresh; cases fresh) (fun z hz => ?_) perm ?_ ?_ fun z hz => ?_⟩
    · have n : b ≠ h'.objs.size := fun e2 => by rw [← e2, sm _ _ e] at fresh; cases fresh
      rw [upd_ne n, upd_ne n]; exact sm _ _ e
    · obtain ⟨y, hy, rfl⟩ := List.mem_map.mp hz
      obtain ⟨b, hb, rfl⟩ := mem y hy
      exact ⟨below b hb, I.hok.fresh (Nat.le_of_lt (hG.above b hb))⟩
    · rw [List.pairwise_map, List.pairwise_map]
      refine List.Pairwise.imp_of_mem (fun {x y} hx hy h => ?_) h1
      obtain ⟨b, _, rfl⟩ := mem x hx
      obtain ⟨c, _, rfl⟩ := mem y hy
      have h := SrtO.lexB_no.mp h
      show (kOf H2 (.ref b)).1 < (kOf H2 (.ref c)).1 ∨ ((kOf H2 (.ref b)).1 = (kOf H2 (.ref c)).1 ∧ (kOf H2 (.ref b)).2 ≤ (kOf H2 (.ref c)).2)
      omega
    · rw [upd_same, List.map_map]
      congr 2
      apply List.ext_getElem?
      intro j
      rw [List.getElem?_map]
      cases ej : zs[j]? with
      | none => rfl
      | some y => exact congrArg some (fz y (List.mem_of_getElem? ej)).symm
    · obtain ⟨y, hy, rfl⟩ := List.mem_map.mp hz
      obtain ⟨b, hb, rfl⟩ := mem y hy
      obtain ⟨j, x, _, _, e⟩ := tp b hb
      show (upd _ _ _) b = some (.tup [.int (kOf H2 (.ref b)).1, .int (kOf H2 (.ref b)).2])
      rw [upd_ne (below b hb), upd_ne (below b hb), kOf_at e]
      exact e
end
end DL
namespace DL
open PySem PySem.Spec L2 C8

/-! ### dicts with keys that are ints or texts -/
def keyD : D → Option Key
  | .int i => some (.inl i)
  | .str s => some (.inr s)
  | _ => none
def valD (kvs : List (Key × D)) (k : Key) : Option D := (kvs.find? fun kv => decide (kv.1 = k)).map (·.2)
def putD (kvs : List (Key × D)) (k : Key) (v : D) : List (Key × D) :=
  if (kvs.any fun kv => decide (kv.1 = k)) = true then kvs.map (fun kv => if kv.1 = k then (kv.1, v) else kv) else kvs ++ [(k, v)]
def dkOf (h : AH) : D → Option (List (Key × D))
  | .dK xs => some xs
  | .ref a => match h a with
    | some (.dK xs) => some xs
    | _ => none
  | _ => none
section
variable {K : PySem.W.Frag} {F : Hp} {h : AH} {H : Hp} {d : D} {v : V}
theorem RepK.val : ∀ {kvs : List (Key × D)} {vs : List (Key × V)}, RepK K F kvs vs → ∀ k : Key, (valD kvs k = none ∧ valV vs k = none) ∨ ∃ d v, valD kvs k = some d ∧ valV vs k = some v ∧ Rep K F d v
  | _, _, .nil, k => .inl ⟨rfl, rfl⟩
  | _, _, @RepK.cons _ _ k0 x u xs us r t, k => by
    by_cases c : k0 = k
    · subst c
      exact .inr ⟨x, u, by simp [valD], by simp [valV], r⟩
    · have e1 : valD ((k0, x) :: xs) k = valD xs k := by simp [valD, List.find?_cons, c]
      have e2 : valV ((k0, u) :: us) k = valV us k := by simp [valV, List.find?_cons, c]
      rw [e1, e2]
      exact RepK.val t k
theorem RepK.keys : ∀ {kvs : List (Key × D)} {vs : List (Key × V)}, RepK K F kvs vs → kvs.map (·.1) = vs.map (·.1)
  | _, _, .nil => rfl
  | _, _, .cons _ t => by simp [RepK.keys t]
theorem RepK.append : ∀ {xs ys : List (Key × D)} {vs ws : List (Key × V)}, RepK K F xs vs → RepK K F ys ws → RepK K F (xs ++ ys) (vs ++ ws)
  | _, _, _, _, .nil, s => s
  | _, _, _, _, .cons h t, s => .cons h (RepK.append t s)
theorem RepK.any : ∀ {kvs : List (Key × D)} {vs : List (Key × V)}, RepK K F kvs vs → ∀ k : Key, (kvs.any fun kv => decide (kv.1 = k)) = (vs.any fun kv => decide (kv.1 = k))
  | _, _, .nil, _ => rfl
  | _, _, .cons _ t, k => by simp only [List.any_cons]; rw [RepK.any t k]
theorem RepK.repl {k : Key} {x : D} {u : V} (r : Rep K F x u) : ∀ {kvs : List (Key × D)} {vs : List (Key × V)}, RepK K F kvs vs → RepK K F (kvs.map fun kv => if kv.1 = k then (kv.1, x) else kv) (vs.map fun kv => if kv.1 = k then (kv.1, u) else kv)
  | _, _, .nil => .nil
  | _, _, @RepK.cons _ _ k0 y w ys ws q t => by
    simp only [List.map_cons]
    by_cases c : k0 = k
    · rw [if_pos c, if_pos c]; exact .cons r (RepK.repl r t)
    · rw [if_neg c, if_neg c]; exact .cons q (RepK.repl r t)
theorem RepK.put {kvs : List (Key × D)} {vs : List (Key × V)} (t : RepK K F kvs vs) (k : Key) {x : D} {u : V} (r : Rep K F x u) : RepK K F (putD kvs k x) (putK vs k u) := by
  unfold putD putK
  rw [t.any k]
  split
  · exact RepK.repl r t
  · exact t.append (.cons r .nil)
theorem keyD_to {d : D} {v : V} {k : Key} (r : Rep K F d v) (e : keyD d = some k) : v = kV k := by
  cases r <;> first | (simp [keyD] at e; done) | (simp only [keyD, Option.some.injEq] at e; subst e; rfl)
theorem Sim.dkOf {kvs : List (Key × D)} (S : Sim K F h H) (r : Rep K F d v) (e : DL.dkOf h d = some kvs) : ∃ a vs, v = .ref a ∧ H a = some (.dK vs) ∧ RepK K F kvs vs := by
  cases r with
  | ref a =>
    cases q : h a with
    | none => simp [DL.dkOf, q] at e
    | some o =>
      cases o with
      | dK ys =>
        simp only [DL.dkOf, q, Option.some.injEq] at e
        subst e
        obtain ⟨_, u, hu, vs, rfl, rs⟩ := S.ob _ _ q
        exact ⟨a, vs, rfl, hu, rs⟩
      | lst _ => simp [DL.dkOf, q] at e
      | dT _ => simp [DL.dkOf, q] at e
      | ins _ _ => simp [DL.dkOf, q] at e
      | lck _ => simp [DL.dkOf, q] at e
  | @dK a ys vs hf rs =>
    cases e
    exact ⟨a, vs, rfl, S.fz _ _ hf, rs⟩
  | non => cases e
  | bl _ => cases e
  | int _ => cases e
  | str _ => cases e
  | ty _ => cases e
  | lk _ _ => cases e
  | ob _ _ => cases e
  | tup _ _ => cases e
  | tpl _ _ _ => cases e
  | lst _ _ => cases e
  | dT _ _ => cases e
/-- what stands anew behind a call is taken as what does not change -/
theorem Sim.grow {H' : Hp} (S : Sim K F h H) (sm : ∀ b o, H b = some o → H' b = some o) (P : Addr → Bool) : ∃ F', Ext F F' ∧ Sim K F' h H' ∧ (∀ b, H b = none → P b = true → F' b = H' b) ∧ ∀ b, H b = none → P b = false → ∀ o, F' b ≠ some o := by
  refine ⟨fun b => if (H b).isNone = true ∧ P b = true then H' b else F b, fun b o e => ?_, ⟨fun b o e => ?_, fun b o e => ?_⟩, fun b e p => ?_, fun b e p o q => ?_⟩
  · have : H b = some o := S.fz _ _ e
    show (if (H b).isNone = true ∧ P b = true then H' b else F b) = some o
    rw [this]; simp [e]
  · split at e
    · exact e
    · exact sm _ _ (S.fz _ _ e)
  · obtain ⟨f, u, hu, r⟩ := S.ob _ _ e
    refine ⟨by simp [hu, f], u, sm _ _ hu, r.ext fun c w q => ?_⟩
    have : H c = some w := S.fz _ _ q
    simp [this, q]
  · simp [e, p]
  · simp [p, (S.free e).1] at q
end

section
variable {X : Cx} {E : XK} {k : Nat} {o i e f value : Expr} {wo wi we wf wv : WE} {pos cpos apos pos' p : Pos}
def wDnew : WE := fun _ h Q _ => ∀ p, h p = none → Q (.ref p) (up h p (.dK []))
theorem ae_dnew : AE X E (.Dict [] [] pos) wDnew := by
  refine ⟨PE.imp pe_dnewK fun σ H Q ⟨F, ρ, h, S, R, q⟩ => ?_, fun ρ h Q Q' X X' hq _ q p e => hq _ _ (q p e)⟩
  intro p hp
  obtain ⟨f, g⟩ := S.free hp
  exact q p g F _ _ (.refl F) (S.newM hp (o := .dK []) ⟨[], rfl, .nil⟩) (.ref p)
/-- d.get(k, x) -/
def wGet2 (wo wi wx : WE) : WE := fun ρ h Q X => wo ρ h (fun x h1 => (dkOf h1 x).isSome = true ∧ wi ρ h1 (fun y h2 => wx ρ h2 (fun z h3 => ∃ kvs k, dkOf h3 x = some kvs ∧ keyD y = some k ∧ Q ((valD kvs k).getD z) h3) X) X) X
theorem ae_get2 (c : Cg gz X E k) (ho : AE X E o wo) (he : AE X E e we) (hf : AE X E f wf) (m : M2 X o "get" apos e f cpos) : AE X E (.Call (.Attribute o "get" apos) [e, f] [] cpos) (wGet2 wo we wf) := by
  refine ⟨PE.imp (pe_dget2 (hu_of c.room) ho.run he.run hf.run m) fun σ H Q ⟨F, ρ, h, S, R, q⟩ => ?_, fun ρ h Q Q' X X' hq hx q => ho.mo _ _ _ _ _ _ (fun x h1 z => ⟨z.1, he.mo _ _ _ _ _ _ (fun y h2 z => hf.mo _ _ _ _ _ _ (fun w h3 ⟨kvs, k, e1, e2, z⟩ => ⟨kvs, k, e1, e2, hq _ _ z⟩) hx z) hx z.2⟩) hx q⟩
  refine ⟨F, ρ, h, S, R, ho.mo _ _ _ _ _ _ (fun x h1 z => ?_) (fun _ _ z => z) q⟩
  intro F1 H1 v e1 S1 r
  obtain ⟨kv0, hk0⟩ := Option.isSome_iff_exists.mp z.1
  obtain ⟨a, vs, rfl, ha, rs⟩ := S1.dkOf r hk0
  refine ⟨a, rfl, .inl ⟨vs, .of ha⟩, F1, ρ, h1, S1, R.ext e1, he.mo _ _ _ _ _ _ (fun y h2 z => ?_) (fun _ _ z => LX.ext e1 z) z.2⟩
  intro F2 H2 vy e2 S2 ry
  refine ⟨F2, ρ, h2, S2, R.ext (e1.trans e2), hf.mo _ _ _ _ _ _ (fun w h3 z => ?_) (fun _ _ z => LX.ext (e1.trans e2) z) z⟩
  intro F3 H3 vw e3 S3 rw'
  obtain ⟨kvs, kk, ek, ey, z⟩ := z
  obtain ⟨a', vs', ea, ha', rs'⟩ := S3.dkOf (r.ext (e2.trans e3)) ek
  cases ea
  have hy := keyD_to (ry.ext e3) ey
  have e123 := e1.trans (e2.trans e3)
  rcases rs'.val kk with ⟨n1, n2⟩ | ⟨d, v, n1, n2, rv⟩
  · refine ⟨none, .inl ⟨vs', kk, .of ha', hy, n2.symm⟩, ?_⟩
    rw [n1] at z
    exact z F3 H3 _ e123 S3 rw'
  · refine ⟨some v, .inl ⟨vs', kk, .of ha', hy, n2.symm⟩, ?_⟩
    rw [n1] at z
    exact z F3 H3 _ e123 S3 rv
/-- d[k] -/
def wDGet (wo wi : WE) : WE := fun ρ h Q X => wo ρ h (fun x h1 => wi ρ h1 (fun y h2 => ∃ kvs k d, dkOf h2 x = some kvs ∧ keyD y = some k ∧ valD kvs k = some d ∧ Q d h2) X) X
theorem ae_dget (c : Cg gz X E k) (ho : AE X E o wo) (hi : AE X E i wi) (hs : NoSl i) : AE X E (.Subscript o i pos) (wDGet wo wi) := by
  refine ⟨PE.imp (pe_dget (hu_of c.room) ho.run hi.run hs) fun σ H Q ⟨F, ρ, h, S, R, q⟩ => ?_, fun ρ h Q Q' X X' hq hx q => ho.mo _ _ _ _ _ _ (fun x h1 z => hi.mo _ _ _ _ _ _ (fun y h2 ⟨kvs, k, d, e1, e2, e3, z⟩ => ⟨kvs, k, d, e1, e2, e3, hq _ _ z⟩) hx z) hx q⟩
  refine ⟨F, ρ, h, S, R, ho.mo _ _ _ _ _ _ (fun x h1 z => ?_) (fun _ _ z => z) q⟩
  intro F1 H1 v e1 S1 r
  refine ⟨F1, ρ, h1, S1, R.ext e1, hi.mo _ _ _ _ _ _ (fun y h2 z => ?_) (fun _ _ z => LX.ext e1 z) z⟩
  intro F2 H2 vy e2 S2 ry
  obtain ⟨kvs, kk, d, ek, ey, ed, z⟩ := z
  obtain ⟨a, vs, rfl, ha, rs⟩ := S2.dkOf (r.ext e2) ek
  rcases rs.val kk with ⟨n1, n2⟩ | ⟨d', v, n1, n2, rv⟩
  · rw [n1] at ed; cases ed
  · rw [n1] at ed; cases ed
    exact ⟨a, v, rfl, .inl ⟨vs, kk, .of ha, keyD_to ry ey, n2.symm⟩, z F2 H2 _ (e1.trans e2) S2 rv⟩
/-- k in d -/
def dDin (f : Bool → Bool) (y x : D) (h : AH) (Q : KD) : Prop := ∃ kvs k, dkOf h x = some kvs ∧ keyD y = some k ∧ Q (.bl (f (valD kvs k).isSome)) h
theorem at_din (c : Cg gz X E k) (hi : AE X E i wi) (ho : AE X E o wo) (hm : behindInMarks .In o = false := by rfl) : AT X E (.Compare i [.In] [o] pos) (wTest (wOp (dDin fun b => b) wi wo)) := by
  have P := pt_cmp (pos := pos) (pc_din (hu_of c.room) hi.run ho.run) hm
  refine ⟨PT.imp P fun σ H Q ⟨F, ρ, h, S, R, q⟩ => ?_, fun ρ h Q Q' X X' hq hx q => hi.mo _ _ _ _ _ _ (fun y h1 z => ho.mo _ _ _ _ _ _ (fun x h2 ⟨kvs, k, e1, e2, z⟩ => ⟨kvs, k, e1, e2, hq _ _ z⟩) hx z) hx q⟩
  refine ⟨F, ρ, h, S, R, hi.mo _ _ _ _ _ _ (fun y h1 z => ?_) (fun _ _ z => z) q⟩
  intro F1 H1 vy e1 S1 ry
  refine ⟨F1, ρ, h1, S1, R.ext e1, ho.mo _ _ _ _ _ _ (fun x h2 z => ?_) (fun _ _ z => LX.ext e1 z) z⟩
  intro F2 H2 vx e2 S2 rx
  obtain ⟨kvs, kk, ek, ey, z⟩ := z
  obtain ⟨a, vs, rfl, ha, rs⟩ := S2.dkOf rx ek
  have e : (valD kvs kk).isSome = (valV vs kk).isSome := by
    rcases rs.val kk with ⟨n1, n2⟩ | ⟨d', v, n1, n2, rv⟩ <;> rw [n1, n2] <;> rfl
  exact ⟨a, _, rfl, .inl ⟨vs, kk, .of ha, keyD_to (ry.ext e2) ey, rfl⟩, _, rfl, by rw [← e]; exact z F2 H2 (e1.trans e2) S2⟩
/-- d[k] = v -/
def wDput (wo wi wv : WE) : WS := fun D ρ h => wv ρ h (fun z h1 => wo ρ h1 (fun x h2 => wi ρ h2 (fun y h3 => ∃ a kvs k, x = .ref a ∧ h3 a = some (.dK kvs) ∧ keyD y = some k ∧ kvs.length < sizeLine ∧ D.nx ρ (up h3 a (.dK (putD kvs k z)))) D.ex) D.ex) D.ex
theorem as_dput (c : Cg gz X E k) (ho : AE X E o wo) (hi : AE X E i wi) (hv : AE X E value wv) (hs : swapsWith value (some (.Subscript o i pos')) pos.line X.env = pure false := by rfl) : AS X E (.Assign [.Subscript o i pos'] value pos) (wDput wo wi wv) := by
  refine ⟨PS.imp (ps_dput (hu_of c.room) ho.run hi.run hv.run hs) fun D σ H ⟨F, ρ, h, S, R, q⟩ => ?_, fun D D' ρ h l q => hv.mo _ _ _ _ _ _ (fun z h1 q => ho.mo _ _ _ _ _ _ (fun x h2 q => hi.mo _ _ _ _ _ _ (fun y h3 ⟨a, kvs, k, e1, e2, e3, e4, q⟩ => ⟨a, kvs, k, e1, e2, e3, e4, l.nx _ _ q⟩) l.ex q) l.ex q) l.ex q⟩
  refine ⟨F, ρ, h, S, R, hv.mo _ _ _ _ _ _ (fun z h1 q => ?_) (fun _ _ z => z) q⟩
  intro F1 H1 vz e1 S1 rz
  refine ⟨F1, ρ, h1, S1, R.ext e1, ho.mo _ _ _ _ _ _ (fun x h2 q => ?_) (fun _ _ z => LX.ext e1 z) q⟩
  intro F2 H2 vx e2 S2 rx
  refine ⟨F2, ρ, h2, S2, R.ext (e1.trans e2), hi.mo _ _ _ _ _ _ (fun y h3 q => ?_) (fun _ _ z => LX.ext (e1.trans e2) z) q⟩
  intro F3 H3 vy e3 S3 ry
  obtain ⟨a, kvs, kk, rfl, ea, ey, l, q⟩ := q
  have rx := rx.ext e3
  cases rx
  obtain ⟨_, u, hu, vs, rfl, rs⟩ := S3.ob _ _ ea
  have hy := keyD_to ry ey
  subst hy
  exact ⟨a, _, rfl, .inl ⟨vs, kk, hu, rfl, by rw [← rs.length]; exact l, rfl⟩, q F3 _ σ (e1.trans (e2.trans e3)) (S3.put ea (o := .dK (putD kvs kk z)) ⟨_, rfl, rs.put kk (rz.ext (e2.trans e3))⟩) (R.ext (e1.trans (e2.trans e3)))⟩

/-! ### sorted(d.items()), ints to ints -/
def pairD (e : Int × Int) : D := .tup [.int e.1, .int e.2]
def lexLe (e f : Int × Int) : Prop := e.1 < f.1 ∨ (e.1 = f.1 ∧ e.2 ≤ f.2)
def wSortIt (m : Bool) (wo : WE) : WE := fun ρ h Q X => wo ρ h (fun x h1 => ∃ (a : Addr) (es : List (Int × Int)), x = .ref a ∧ h1 a = some (.dK (es.map fun e : Int × Int => ((Sum.inl e.1 : Key), D.int e.2))) ∧ ∀ zs : List (Int × Int), zs.Perm es → zs.Pairwise lexLe → newL m (zs.map pairD) h1 Q) X
theorem repk_ints {K : PySem.W.Frag} {F : Hp} : ∀ {es : List (Int × Int)} {vs : List (Key × V)}, RepK K F (es.map fun e : Int × Int => ((Sum.inl e.1 : Key), D.int e.2)) vs → vs = es.map fun e => (Sum.inl e.1, V.int e.2)
  | [], _, .nil => rfl
  | e :: es, _, .cons r t => by cases r; rw [repk_ints t]; rfl
theorem ae_sortIt (m : Bool) {pn : Pos} (hm : X.mg "sorted" = none) (c : Cg gz X E k) (ho : AE X E o wo) (hg : Gl X "sorted" := by rfl)
    (hbase : attributeBase o "items" X.env (eval o X.env) = eval o X.env := by rfl)
    (hline : (apos.endLine == cpos.line) = true := by rfl)
    (hst : starEach [Expr.Call (.Attribute o "items" apos) [] [] cpos] X.env = (false, eval (.Call (.Attribute o "items" apos) [] [] cpos) X.env) :: starEach [] X.env := by rfl)
    (hpl : (backTo pos (starEach [] X.env)).any (·.1) = false := by rfl) :
    AE X E (.Call (.Name "sorted" pn) [.Call (.Attribute o "items" apos) [] [] cpos] [] pos) (wSortIt m wo) := by
  have P1 := pe_bm0 (cpos := cpos) (apos := apos) PySem.F.plainAttrs_dict PySem.F.slot_dict_items PySem.F.type_dict_items (mt_itemsV (X := X)) ho.run hbase hline
  have P2 := pe_callB (pos := pos) (p := pn) (cr_sortIt c.calm) hg hm PyProof.Rows.boot_sorted (pa_cons P1 pa_nil hst) (he := hst) (hpl := hpl)
  refine ⟨PE.imp P2 fun σ H Q ⟨F, ρ, h, S, R, q⟩ => ?_, fun ρ h Q Q' X X' hq hx q => ho.mo _ _ _ _ _ _ (fun x h1 ⟨a, es, e1, e2, z⟩ => ⟨a, es, e1, e2, fun zs p1 p2 => newL_mo hq (z zs p1 p2)⟩) hx q⟩
  refine ⟨F, ρ, h, S, R, ho.mo _ _ _ _ _ _ (fun x h1 z => ?_) (fun _ _ z => z) q⟩
  intro F1 H1 v e1 S1 r
  obtain ⟨a, es, rfl, ea, z⟩ := z
  cases r
  obtain ⟨_, u, hu, vs, rfl, rs⟩ := S1.ob _ _ ea
  rw [repk_ints rs] at hu
  refine ⟨.inr (.inr (.inl ⟨rfl, .inl ⟨_, hu⟩⟩)), a, _, rfl, rfl, hu, fun p hp => ?_⟩
  have na : a ≠ p := by rintro rfl; rw [hu] at hp; cases hp
  refine ⟨p, a, es, rfl, upd_same, by rw [upd_ne na]; exact hu, fun H' l ps sm hl nl perm pw hL hT => ?_⟩
  have sm1 : ∀ b o, H1 b = some o → H' b = some o := fun b o e => sm b o (by rw [upd_ne (by rintro rfl; rw [hp] at e; cases e)]; exact e)
  have hl1 : H1 l = none := by
    by_cases c : l = p
    · rw [c]; exact hp
    · rw [upd_ne c] at hl; exact hl
  have z := newL_mo (fun _ _ z => LQ.ext e1 z) (z _ perm pw)
  -- all that is new but the list
  obtain ⟨F2, x2, S2, g2, g3⟩ := S1.grow sm1 (fun b => decide (b ≠ l))
  have hT2 : ∀ z ∈ ps, F2 z.1 = some (.tup [.int z.2.1, .int z.2.2]) := fun z hz => by
    obtain ⟨n1, n2⟩ := nl z hz
    have n3 : H1 z.1 = none := by
      by_cases c : z.1 = p
      · rw [c]; exact hp
      · rw [upd_ne c] at n2; exact n2
    exact (g2 _ n3 (by simpa using n1)).trans (hT z hz)
  have rsT : ∀ {F3 : Hp} (qs : List (Addr × Int × Int)), (∀ z ∈ qs, F3 z.1 = some (.tup [.int z.2.1, .int z.2.2])) → Reps X.K F3 ((qs.map (·.2)).map pairD) (qs.map fun z => V.ref z.1) := by
    intro F3 qs
    induction qs with
    | nil => intro _; exact .nil
    | cons z qs ih => intro hz; exact .cons (.tup (.of (hz z (List.mem_cons_self ..))) (.cons (.int _) (.cons (.int _) .nil))) (ih fun w hw => hz w (List.mem_cons_of_mem _ hw))
  have f2 : F2 l = none := by
    cases e : F2 l with
    | none => rfl
    | some o => exact absurd e (g3 l hl1 (by simp) o)
  obtain ⟨_, hl2⟩ := S1.free hl1
  cases m with
  | true =>
    refine z l hl2 F2 H' _ x2 ⟨fun b o e => S2.fz _ _ e, fun b o e => ?_⟩ (.ref l)
    by_cases c : b = l
    · subst c; rw [up_same] at e; cases e
      exact ⟨f2, _, hL, _, rfl, rsT ps hT2⟩
    · rw [up_ne c] at e; exact S2.ob _ _ e
  | false =>
    have x3 : Ext F2 (upd F2 l (.lst (ps.map fun z => V.ref z.1))) := ext_upd f2
    refine z (upd F2 l (.lst (ps.map fun z => V.ref z.1))) H' _ (x2.trans x3) ⟨fun b o e => ?_, fun b o e => ?_⟩ (.lst upd_same (rsT ps fun z hz => x3 _ _ (hT2 z hz)))
    · by_cases c : b = l
      · subst c; rw [upd_same] at e; cases e; exact hL
      · rw [upd_ne c] at e; exact S2.fz _ _ e
    · obtain ⟨f, u, hu, r⟩ := S2.ob _ _ e
      refine ⟨?_, u, hu, r.ext x3⟩
      have c : b ≠ l := by rintro rfl; rw [hl2] at e; cases e
      rw [upd_ne c]; exact f
end
end DL
namespace PySem
set_option maxHeartbeats 1000000 in
theorem dl_meets_enum1 {v : Value} {o : Obj} {H : Heap → Prop} (B : Begins v o H) :
    Meets (Builtin.«enumerate.__new__» ⟨[.type "enumerate", v], []⟩) (fun _ R s => H s.heap ∧
      R (.ok (.ret (.ref (s.heap.push o).objs.size))) { s with heap := (s.heap.push o).push { cls := .type "enumerate", data := .fields #[.none, .bool false, .ref s.heap.objs.size, rawInt 0, .none, .none] } }) :=
  .of_wp fun prog w A R s h => by
    obtain ⟨hp, gg, dd, tk, os⟩ := s; obtain ⟨h1, h⟩ := h
    have se := sub_enumerate
    have go : ∀ {A' : Around} {E : Value → Shared → Prop} {Q : Value → Shared → Prop}, Q (.ref hp.objs.size) ⟨hp.push o, gg, dd, tk, os⟩ → wpAny (model prog w) A' (pyIter v) Q E ⟨hp, gg, dd, tk, os⟩ :=
      fun q => B.iter prog w _ _ ⟨hp, gg, dd, tk, os⟩ _ h1 q
    wp_walk using go
    refine wpAny_stack_any fun st => wpAny_pure ?_
    split
    · rename_i c _ _ _ _ _
      cases (c == Value.type "enumerate") <;> (wp_walk using go; exact ⟨_, rfl, h⟩)
    · wp_walk using go
      exact ⟨_, rfl, h⟩
section
variable {prog : Program} {w : World} {A : Around} {E : Value → Shared → Prop} {s : Shared}
theorem dl_call_enum {v : Value} {o : Obj} {H : Heap → Prop} {Q : Value → Shared → Prop} (B : Begins v o H) (h1 : H s.heap)
    (h : ∀ h', IsEnum h' (s.heap.objs.size + 1) s.heap.objs.size 0 .none → h'.get? s.heap.objs.size = some o → (∀ b o, s.heap.get? b = some o → h'.get? b = some o) → Q (.ref (s.heap.objs.size + 1)) { s with heap := h' }) :
    wpAny (model prog w) A (call (.type "enumerate") [v]) Q E s := by
  refine callType_new F.called_enumerate (by decide) (F.typeCall_enumerate_1 _) (F.newCall_enumerate_1 _) (fun obj => F.args_object_init_2 obj _) F.entry_enumerate_new (dl_meets_enum1 B) ⟨h1, ?_⟩
  have z : (s.heap.push o).objs.size = s.heap.objs.size + 1 := Heap.size_push ..
  have he := Heap.get?_push_size (s.heap.push o) (o := { cls := .type "enumerate", data := .fields #[.none, .bool false, .ref s.heap.objs.size, rawInt 0, .none, .none] }) rfl
  show _ ∧ _
  rw [z] at he ⊢
  exact ⟨⟨_, he, rfl⟩, h _ he (Heap.get?_push_of_some _ (Heap.get?_push_size _ B.free)) fun b o x => Heap.get?_push_of_some _ (Heap.get?_push_of_some _ x)⟩
end
end PySem

namespace DL
open PySem PySem.Spec L2 C8

/-! ### enumerate(tuple) -/
def Iet (K : PySem.W.Frag) (a : Addr) : It :=
  ⟨fun i H => ∃ (xs : List V) (x : V), SqT K H a xs ∧ xs[i]? = some x, fun i H v H' => ∃ T x, v = .ref T ∧ H T = none ∧ H' = upd H T (.tup [.int (i : Nat), x]) ∧ ∀ xs, SqT K H a xs → xs[i]? = some x, fun i H => ∃ xs : List V, SqT K H a xs ∧ xs.length = i⟩
theorem turn_et {P : Program} {w : World} {K : PySem.W.Frag} {elts : List Expr} {kk : Nat} {tpos : Pos} (a e it : Addr) :
    Turn P w K (.Tuple elts kk tpos) (Iet K a) [e, it] e (fun i h => (∃ old, IsEnum h e it ((i : Nat) : Int) old) ∧ h.IsTupleIter it a i ∧ e ≠ it ∧ e ≠ a ∧ a ≠ it) where
  mem := by simp
  obj := fun i h st b hb => by
    obtain ⟨⟨old, he⟩, ⟨o, ho, hc, hd⟩, _⟩ := st
    rcases (by simpa using hb : b = e ∨ b = it) with z | z <;> subst z
    · exact ⟨_, he, fun v q => nomatch q⟩
    · exact ⟨o, ho, fun v q => by rw [hd] at q; cases q⟩
  keep := fun i h h' st k => let ⟨⟨old, he⟩, hi, n⟩ := st; ⟨⟨old, k e (by simp) _ he⟩, hi.at fun o q => k it (by simp) o q, n⟩
  item := by
    intro X hP hw hK hc i pins s σ H E I hf st hg
    subst hP hw hK
    obtain ⟨⟨old, he⟩, hit, n1, n2, n3⟩ := st
    obtain ⟨xs, x, hq, hx⟩ := hg
    obtain ⟨its, rv, p, hz⟩ := I.tuple hq
    obtain ⟨u, hu, ru⟩ := rv.get hx
    have le : e < s.heap.objs.size := Heap.lt_size he
    have li : it < s.heap.objs.size := by obtain ⟨_, q, _⟩ := hit; exact Heap.lt_size q
    have pT : s.heap.IsTuple a its.toArray := p
    refine wpAny_pyNext_enum_itemD (D := Draws.tuple (A := X.A.in1) (show X.A.in1.handled = none from I.ok.hd hc) it a n3 its.toArray) he ⟨hit, pT⟩ (by obtain ⟨l, _⟩ := List.getElem?_eq_some_iff.mp hu; simpa using l) n1 (by simp [n1, n2]) fun u' h' tk hu' ho hs' hT hsz hk => ?_
    have eu : u' = u := by
      have : its[i]? = some u' := by simpa using hu'
      rw [hu] at this; exact (Option.some.inj this).symm
    subst eu
    refine ⟨_, rfl, wpAny_letOwnedTupleGo_enum (s := { s with heap := h', toks := tk + 1 }) ho fun h'' he' sb => ?_⟩
    have hT2 := (sb.2 _ (Nat.ne_of_gt le)).trans hT
    have new : ObjOk X.prog X.w (upd H s.heap.objs.size (.tup [.int (i : Nat), x])) h'' s.heap.objs.size (.tup [.int (i : Nat), x]) :=
      ⟨by show 2 ≤ sizeLine; decide, [.int i tk, u'], .cons ⟨_, rfl⟩ (.cons ru .nil), ⟨_, hT2, rfl, _, rfl⟩⟩
    have I1 : Inv X pins σ (upd H s.heap.objs.size (.tup [.int (i : Nat), x])) { s with heap := h'', toks := tk + 1 } :=
      I.turnedNew (ch := [e, it]) (fun b ob hb q => (sb.2 b (fun z => hb (by simp [z]))).trans (hk b ob (fun z => hb (by simp [z])) (fun z => hb (by simp [z])) q)) hf (Nat.le_refl _) new
    refine ⟨.ref s.heap.objs.size, _, I1, rfl, ⟨_, x, rfl, I.hok.fresh (Nat.le_refl _), rfl, fun ys hy => by rw [I.tuple_inj hy hq]; exact hx⟩, ⟨⟨u', ?_⟩, hs'.1.at fun o q => (sb.2 it (Ne.symm n1)).trans q, n1, n2, n3⟩, fun b hb => ?_⟩
    · rw [show ((i + 1 : Nat) : Int) = (i : Int) + 1 by omega]; exact he'
    · have hb' : b < s.heap.objs.size := by
        rcases (by simpa using hb : b = e ∨ b = it) with z | z <;> subst z <;> assumption
      rw [upd_ne (Nat.ne_of_lt hb')]
      exact (hf b hb).1
  done := by
    intro X hP hw hK hc i pins s σ H E I hf st hg
    subst hP hw hK
    obtain ⟨⟨old, he⟩, hit, n1, n2, n3⟩ := st
    obtain ⟨xs, hq, hx⟩ := hg
    obtain ⟨its, rv, p, hz⟩ := I.tuple hq
    obtain ⟨f0, f1, f2, f3, f4, f5⟩ := hf it (by simp)
    have pT : s.heap.IsTuple a its.toArray := p
    have hl : its.toArray.size = i := by have := rv.length; simp; omega
    exact wpAny_pyNext_enum_endD (Draws.tuple (A := X.A.in1) (show X.A.in1.handled = none from I.ok.hd hc) it a n3 its.toArray) he ⟨by rw [hl]; exact hit, pT⟩ fun h' eb => ⟨rfl, I.turned (t' := s.toks) (fun b o hb q => eb b o hb q) f0 f1 f3 f4 f5⟩
  self := fun A i s Q E st h => let ⟨⟨_, he⟩, _⟩ := st; wpAny_pyIter_enum he h
def vEnumT (K : PySem.W.Frag) (ta : TA) : TI := fun σ H R => ta σ H fun vs H1 => ∃ a xs, vs = [.ref a] ∧ SqT K H1 a xs ∧ R (Iet K a) H1
theorem pi_et {X : Cx} {e : Expr} {ta : TA} {p pos tpos : Pos} {elts : List Expr} {kk : Nat} (hg : Gl X "enumerate") (hm : X.mg "enumerate" = none) (ha : PA X [e] ta) (hs : starEach [e] X.env = [(false, eval e X.env)] := by rfl) :
    PI X (.Tuple elts kk tpos) (.Call (.Name "enumerate" p) [e] [] pos) (vEnumT X.K ta) := by
  refine ⟨fun pins s σ H R I h => ?_⟩
  refine PyProof.Rows.Call_ (ld_blt I hg hm PyProof.Rows.boot_enumerate (PyProof.Rows.callWith_type1 (thn (ha.run pos pins s σ H _ I h) fun us s1 ⟨vs, H1, I1, r1, q1⟩ => ?_) hs rfl))
  obtain ⟨a, xs, rfl, hq, q⟩ := q1
  cases r1 with
  | cons r rr =>
    cases rr
    cases r
    obtain ⟨its, rv, pp, hz⟩ := I1.tuple hq
    have pT : s1.heap.IsTuple a its.toArray := pp
    have la : a < s1.heap.objs.size := by obtain ⟨_, x, _⟩ := pT; exact Heap.lt_size x
    refine dl_call_enum (begins_tuple a its.toArray) pT fun h' he hi hk => wpAny_pyIter_enum he ?_
    refine ⟨s1.heap.objs.size + 1, [s1.heap.objs.size + 1, s1.heap.objs.size], _, _, H1, rfl, I1.kept (t' := s1.toks) hk, turn_et a (s1.heap.objs.size + 1) s1.heap.objs.size, ⟨⟨.none, he⟩, ⟨_, hi, rfl, rfl⟩, Nat.succ_ne_self _, Nat.ne_of_gt (Nat.lt_succ_of_lt la), Nat.ne_of_lt la⟩, fun b hb => ?_, q⟩
    have hle : s1.heap.objs.size ≤ b := by
      rcases (by simpa using hb : b = s1.heap.objs.size + 1 ∨ b = s1.heap.objs.size) with z | z
      · rw [z]; exact Nat.le_succ _
      · rw [z]; exact Nat.le_refl _
    exact I1.fpOk hle (I1.hok.fresh hle)

/-! ### their readings as data -/
def numD (xs : List D) : List D := (List.range xs.length).zipWith (fun i x => .tup [.int (i : Nat), x]) xs
theorem numD_len {xs : List D} : (numD xs).length = xs.length := by simp [numD]
theorem numD_get {xs : List D} {i : Nat} {d : D} (h : (numD xs)[i]? = some d) : ∃ x, xs[i]? = some x ∧ d = .tup [.int (i : Nat), x] := by
  unfold numD at h
  rw [List.getElem?_zipWith] at h
  by_cases c : i < xs.length
  · rw [List.getElem?_range c, List.getElem?_eq_getElem c] at h
    cases h
    exact ⟨_, List.getElem?_eq_getElem c, rfl⟩
  · rw [List.getElem?_eq_none (l := List.range _) (by simpa using c)] at h
    simp at h
section
variable {K : PySem.W.Frag} {F : Hp} {a : Addr} {xs : List D} {vs : List V}
theorem ItD.numT (q : SqT K F a vs) (r : Reps K F xs vs) : ItD K F (Iet K a) (numD xs) (fun _ => True) where
  go := fun {i F' h0 H} e S s l => by
    rw [numD_len] at l
    obtain ⟨v, hv, _⟩ := r.get (List.getElem?_eq_getElem l)
    exact ⟨vs, v, sqt_of S.fz (e.sqt q), hv⟩
  stop := fun {i F' h0 H} e S s l =>
    by exact ⟨vs, sqt_of S.fz (e.sqt q), by rw [← r.length, ← numD_len]; exact l⟩
  yld := fun {i F' h0 H x H' d} e S s y hd => by
    obtain ⟨T, v, rfl, hT, rfl, y⟩ := y
    obtain ⟨dx, hx, rfl⟩ := numD_get hd
    obtain ⟨v', hv, rv⟩ := r.get hx
    have ey := y vs (sqt_of S.fz (e.sqt q))
    rw [hv] at ey
    obtain rfl := Option.some.inj ey
    have x1 := ext_upd (o := HO.tup [V.int (i : Nat), v']) (S.free hT).1
    exact ⟨_, x1, S.newF hT _, .tup (.of upd_same) (.cons (.int _) (.cons ((rv.ext e).ext x1) .nil))⟩
theorem ItD.numL {st : AH → Prop} (h : ∀ {F' h H}, Ext F F' → Sim K F' h H → st h → ∃ vs, SqL K H a vs ∧ Reps K F' xs vs) : ItD K F (Ite K a) (numD xs) st where
  go := fun {i F' h0 H} e S s l => by
    rw [numD_len] at l
    obtain ⟨vs, q, r⟩ := h e S s
    obtain ⟨v, hv, _⟩ := r.get (List.getElem?_eq_getElem l)
    exact ⟨vs, v, q, hv⟩
  stop := fun {i F' h0 H} e S s l => by
    obtain ⟨vs, q, r⟩ := h e S s
    exact ⟨vs, q, by rw [← r.length, ← numD_len]; exact Nat.le_of_eq l⟩
  yld := fun {i F' h0 H x H' d} e S s y hd => by
    obtain ⟨T, v, rfl, hT, rfl, y⟩ := y
    obtain ⟨dx, hx, rfl⟩ := numD_get hd
    obtain ⟨vs, q, r⟩ := h e S s
    obtain ⟨v', hv, rv⟩ := r.get hx
    have ey := y vs q
    rw [hv] at ey
    obtain rfl := Option.some.inj ey
    have x1 := ext_upd (o := HO.tup [V.int (i : Nat), v']) (S.free hT).1
    exact ⟨_, x1, S.newF hT _, .tup (.of upd_same) (.cons (.int _) (.cons (rv.ext x1) .nil))⟩
def stepD (lo c : Int) (n : Nat) : List D := (List.range n).map fun i => D.int (lo + (i : Nat) * c)
theorem stepD_len {lo c : Int} {n : Nat} : (stepD lo c n).length = n := by simp [stepD]
theorem stepD_get {lo c : Int} {n i : Nat} {d : D} (h : (stepD lo c n)[i]? = some d) : d = .int (lo + (i : Nat) * c) ∧ i < n := by
  unfold stepD at h
  rw [List.getElem?_map] at h
  by_cases l : i < n
  · rw [List.getElem?_range l] at h
    cases h; exact ⟨rfl, l⟩
  · rw [List.getElem?_eq_none (by simpa using l)] at h; cases h
theorem ItD.step {lo c : Int} {n : Nat} : ItD K F (Itc lo c n) (stepD lo c n) (fun _ => True) where
  go := fun {i F' h0 H} e S s l => by rw [stepD_len] at l; exact l
  stop := fun {i F' h0 H} e S s l => by rw [stepD_len] at l; exact Nat.le_of_eq l
  yld := fun {i F' h0 H x H' d} e S s y hd => by
    obtain ⟨rfl, rfl⟩ := y
    obtain ⟨rfl, _⟩ := stepD_get hd
    exact ⟨F', .refl _, S, .int _⟩
end
section
variable {X : Cx} {E : XK} {tg e : Expr} {wl : WA} {p pos tpos : Pos} {elts : List Expr} {kk : Nat}
/-- enumerate of a tuple, or of a list as it stands -/
def iNum (wl : WA) : WI := fun ρ h R X => wl ρ h (fun ds h1 => match ds with
  | [.tup xs] => R (numD xs) (fun _ => True) h1
  | _ => False) X
def iNumL (wl : WA) : WI := fun ρ h R X => wl ρ h (fun ds h1 => match ds with
  | [.lst xs] => R (numD xs) (fun _ => True) h1
  | [.ref a] => ∃ xs, h1 a = some (.lst xs) ∧ R (numD xs) (fun h => h a = some (.lst xs)) h1
  | _ => False) X
theorem ai_num (hm : X.mg "enumerate" = none) (ha : AA X E [e] wl) (hg : Gl X "enumerate" := by rfl) (hs : starEach [e] X.env = [(false, eval e X.env)] := by rfl) : AI X E (.Tuple elts kk tpos) (.Call (.Name "enumerate" p) [e] [] pos) (iNum wl) := by
  refine ⟨PI.imp (pi_et hg hm ha.run hs) fun σ H R ⟨F, ρ, g, S, Rr, q⟩ => ?_, fun ρ h Q Q' X X' hq hx q => ha.mo _ _ _ _ _ _ (fun ds h1 z => ?_) hx q⟩
  · refine ⟨F, ρ, g, S, Rr, ha.mo _ _ _ _ _ _ (fun ds h1 z => ?_) (fun _ _ z => z) q⟩
    intro F1 H1 vs e1 S1 rs
    split at z
    · cases rs with
      | cons r rs =>
        cases rs
        cases r with
        | @tup a xs us hf rs => exact ⟨a, us, rfl, sqt_of S1.fz hf, z F1 H1 _ e1 S1 (ItD.numT hf rs)⟩
    · exact z.elim
  · split at z
    · exact hq _ _ _ z
    · exact z.elim
theorem ai_numL (hm : X.mg "enumerate" = none) (ha : AA X E [e] wl) (hg : Gl X "enumerate" := by rfl) (hs : starEach [e] X.env = [(false, eval e X.env)] := by rfl) : AI X E (.Tuple elts kk tpos) (.Call (.Name "enumerate" p) [e] [] pos) (iNumL wl) := by
  refine ⟨PI.imp (pi_enum hg hm ha.run hs) fun σ H R ⟨F, ρ, g, S, Rr, q⟩ => ?_, fun ρ h Q Q' X X' hq hx q => ha.mo _ _ _ _ _ _ (fun ds h1 z => ?_) hx q⟩
  · refine ⟨F, ρ, g, S, Rr, ha.mo _ _ _ _ _ _ (fun ds h1 z => ?_) (fun _ _ z => z) q⟩
    intro F1 H1 vs e1 S1 rs
    split at z
    · cases rs with
      | cons r rs =>
        cases rs
        cases r with
        | @lst a xs us hf rs => exact ⟨a, us, rfl, .of (S1.fz _ _ hf), z F1 H1 _ e1 S1 (ItD.numL fun {F' h0 H0} e S _ => ⟨us, .of (S.fz _ _ (e _ _ hf)), rs.ext e⟩)⟩
    · rename_i a
      obtain ⟨xs, hx, z⟩ := z
      cases rs with
      | cons r rs =>
        cases rs
        cases r
        obtain ⟨_, u, hu, us, rfl, ru⟩ := S1.ob _ _ hx
        refine ⟨a, us, rfl, .of hu, z F1 H1 _ e1 S1 (ItD.numL fun {F' h0 H0} e S st => ?_)⟩
        obtain ⟨_, u', hu', vs', rfl, rs'⟩ := S.ob _ _ st
        exact ⟨vs', .of hu', rs'⟩
    · exact z.elim
  · split at z
    · exact hq _ _ _ z
    · obtain ⟨xs, hx, z⟩ := z
      exact ⟨xs, hx, hq _ _ _ z⟩
    · exact z.elim
def iRng3 (wl : WA) : WI := fun ρ h R X => wl ρ h (fun ds h1 => match ds with
  | [.int i, .int j, .int c] => ∃ n, RgC i j c n ∧ R (stepD i c n) (fun _ => True) h1
  | _ => False) X
theorem ai_rng3 {a b c : Expr} (hm : X.mg "range" = none) (ha : AA X E [a, b, c] wl) (hg : Gl X "range" := by rfl) (hs : starEach [a, b, c] X.env = (false, eval a X.env) :: starEach [b, c] X.env := by rfl) (hpl : (backTo pos (starEach [b, c] X.env)).any (·.1) = false := by rfl) :
    AI X E tg (.Call (.Name "range" p) [a, b, c] [] pos) (iRng3 wl) := by
  refine ⟨PI.imp (pi_range3 hg hm ha.run hs hpl) fun σ H R ⟨F, ρ, g, S, Rr, q⟩ => ?_, fun ρ h Q Q' X X' hq hx q => ha.mo _ _ _ _ _ _ (fun ds h1 z => ?_) hx q⟩
  · refine ⟨F, ρ, g, S, Rr, ha.mo _ _ _ _ _ _ (fun ds h1 z => ?_) (fun _ _ z => z) q⟩
    intro F1 H1 vs e1 S1 rs
    split at z
    · obtain ⟨n, c, z⟩ := z
      cases rs with
      | cons r rs =>
        cases r
        cases rs with
        | cons r rs =>
          cases r
          cases rs with
          | cons r rs => cases rs; cases r; exact ⟨_, _, _, n, rfl, c, z F1 H1 _ e1 S1 ItD.step⟩
    · exact z.elim
  · split at z
    · obtain ⟨n, c, z⟩ := z
      exact ⟨n, c, hq _ _ _ z⟩
    · exact z.elim
end
end DL
namespace DL
open PySem PySem.Spec L2 C8

/-! ### x in (a, b): flat data -/
def flatD : D → Bool
  | .non => true
  | .bl _ => true
  | .int _ => true
  | .str _ => true
  | _ => false
def eqFD : D → D → Bool
  | .non, .non => true
  | .bl a, .bl b => a == b
  | .bl a, .int b => (if a then 1 else 0) == b
  | .int a, .bl b => a == (if b then 1 else 0)
  | .int a, .int b => a == b
  | .str a, .str b => a == b
  | _, _ => false
def inD (x : D) (ys : List D) : Bool := ys.any fun y => eqFD y x
def dIn (neg : Bool) (x y : D) (h : AH) (Q : KD) : Prop := ∃ ys, seqOf h y = some ys ∧ flatD x = true ∧ ys.all flatD = true ∧ Q (.bl (if neg then !inD x ys else inD x ys)) h
theorem flatV_of {K : PySem.W.Frag} {F : Hp} {d : D} {v : V} (r : Rep K F d v) (f : flatD d = true) : flatV v = true := by
  cases r <;> first | rfl | cases f
theorem eqV_of {K : PySem.W.Frag} {F : Hp} {d e : D} {v w : V} (r : Rep K F d v) (q : Rep K F e w) (f : flatD d = true) (g : flatD e = true) : eqV v w = eqFD d e := by
  cases r <;> first | (exact absurd f Bool.false_ne_true) | (cases q <;> first | rfl | (exact absurd g Bool.false_ne_true))
theorem inV_of {K : PySem.W.Frag} {F : Hp} {d : D} {v : V} (r : Rep K F d v) (f : flatD d = true) : ∀ {xs : List D} {vs : List V}, Reps K F xs vs → xs.all flatD = true → vs.all flatV = true ∧ inV v vs = inD d xs
  | _, _, .nil, _ => ⟨rfl, rfl⟩
  | _, _, .cons q t, g => by
    rw [List.all_cons, Bool.and_eq_true] at g
    obtain ⟨h1, h2⟩ := inV_of r f t g.2
    refine ⟨by rw [List.all_cons, flatV_of q g.1, h1]; rfl, ?_⟩
    show (List.any _ _) = (List.any _ _)
    rw [List.any_cons, List.any_cons, eqV_of q r g.1 f]
    exact congrArg _ h2
theorem dIn_ok {K : PySem.W.Frag} {neg : Bool} : OpD K (rIn K neg) (dIn neg) where
  to := by
    intro F h H x y vx vy Q S rx ry q
    obtain ⟨ys, e, f, g, q⟩ := q
    obtain ⟨a, vs, rfl, hq, rs⟩ := S.seqOf ry e
    obtain ⟨h1, h2⟩ := inV_of rx f rs g
    exact ⟨a, vs, rfl, hq, flatV_of rx f, h1, by rw [h2]; exact q.at S (.bl _)⟩
  mo := fun hq ⟨ys, e, f, g, q⟩ => ⟨ys, e, f, g, hq _ _ q⟩
section
variable {X : Cx} {E : XK} {k : Nat} {a b e : Expr} {es : List Expr} {wa wb wx : WE} {wl wk : WA} {pos kpos : Pos} {kws : List Keyword} {nm : Option Str}
theorem ae_in (ha : AE X E a wa) (hb : AE X E b wb) (hm : behindInMarks .In b = false := by rfl) : AE X E (.Compare a [.In] [b] pos) (wOp (dIn false) wa wb) := ae_cmp dIn_ok op_in_seq ha hb hm
theorem ae_notin (ha : AE X E a wa) (hb : AE X E b wb) (hm : behindInMarks .NotIn b = false := by rfl) : AE X E (.Compare a [.NotIn] [b] pos) (wOp (dIn true) wa wb) := ae_cmp dIn_ok op_notIn_seq ha hb hm
theorem at_in (ha : AE X E a wa) (hb : AE X E b wb) (hm : behindInMarks .In b = false := by rfl) : AT X E (.Compare a [.In] [b] pos) (wTest (wOp (dIn false) wa wb)) := at_cmp dIn_ok op_in_seq ha hb hm
theorem at_notin (ha : AE X E a wa) (hb : AE X E b wb) (hm : behindInMarks .NotIn b = false := by rfl) : AT X E (.Compare a [.NotIn] [b] pos) (wTest (wOp (dIn true) wa wb)) := at_cmp dIn_ok op_notIn_seq ha hb hm

/-! ### keywords -/
structure AK (X : Cx) (E : XK) (kws : List Keyword) (w : WA) : Prop where
  run : PK X kws (tA X.K E w)
  mo : MoA w
theorem PK.imp {t t' : TA} (p : PK X kws t) (h : ∀ σ H Q, t' σ H Q → t σ H Q) : PK X kws t' := ⟨fun pos pins s σ H Q I q => p.run pos pins s σ H Q I (h _ _ _ q)⟩
theorem ak_nil : AK X E [] wNil := ⟨PK.imp pk_nil fun σ H Q ⟨F, ρ, g, S, R, q⟩ => q F H [] (.refl F) S .nil, fun ρ h Q Q' X X' hq hx q => hq _ _ q⟩
theorem ak_cons (ha : AE X E e wx) (hr : AK X E kws wk) : AK X E (⟨nm, e, kpos⟩ :: kws) (wCons wx wk) := by
  refine ⟨PK.imp (pk_cons ha.run hr.run) fun σ H Q ⟨F, ρ, g, S, R, q⟩ => ?_, fun ρ h Q Q' X X' hq hx q => ha.mo _ _ _ _ _ _ (fun x h1 z => hr.mo _ _ _ _ _ _ (fun xs h2 z => hq _ _ z) hx z) hx q⟩
  refine ⟨F, ρ, g, S, R, ha.mo _ _ _ _ _ _ (fun x h1 z => ?_) (fun _ _ z => z) q⟩
  intro F1 H1 v e1 S1 r
  refine ⟨F1, ρ, h1, S1, R.ext e1, hr.mo _ _ _ _ _ _ (fun xs h2 z => ?_) (fun _ _ z => LX.ext e1 z) z⟩
  intro F2 H2 vs e2 S2 rs
  exact z F2 H2 _ (e1.trans e2) S2 (.cons (r.ext e2) rs)
/-- f(k = b, ..) -/
theorem ae_callK0 {m j : Nat} {ks : List Str} {gg : List D → List D → List D} {S : FSpec} {x : Str} {p : Pos} (c : Cg gz X E k) (C : Cal gy X.prog X.w X.K X.mg X.base x j 0 ks gg S) (hj : j ≤ k) (hz : gy = true → gz = true) (hkw : AK X E kws wk) (hl : ks.length = m := by rfl)
    (hg : Gl X x := by rfl) (hall : (backToKw pos (keywordEach kws X.env)).all (·.1.isSome) = true := by rfl) (hks : (backToKw pos (keywordEach kws X.env)).filterMap (·.1) = ks := by rfl) (hdb : (x == ("__debug__" : Str)) = false := by decide)
    (hpl : ((backTo pos (starEach [] X.env)).any (·.1) || (backToKw pos (keywordEach kws X.env)).any (·.1.isNone)) = false := by rfl) : AE X E (.Call (.Name x p) [] kws pos) (wCall S 0 m gg wNil wk) := by
  obtain ⟨f, fd, ps, hm, hk, G, B⟩ := C.ex
  refine ⟨⟨fun pins s σ H Q I hq => ?_⟩, fun ρ h0 Q Q' X X' hq hx q => hkw.mo _ _ _ _ _ _ (fun zs h1 q1 => ⟨q1.1, q1.2.1, G.mo _ _ _ _ _ _ hq hx q1.2.2⟩) hx q⟩
  obtain ⟨F, ρ, g, S0, R, q⟩ := hq
  refine wpAny_Call_Name_kw (ld_glob I hg hm ?_ hdb)
  refine PySem.W.callWith_KW0 (h₀ := X.base) I.ok.mod.kin hk hall
    (thn (hkw.run.run pos pins s σ H (fun ys H1 => ∃ F1 h1 zs, Sim X.K F1 h1 H1 ∧ Reps X.K F1 zs ys ∧ zs.length = m ∧ S (gg [] zs) h1 (LQ X.K F1 Q) (LX X.K F1 E)) I
      ⟨F, ρ, g, S0, R, hkw.mo _ _ _ _ _ _ (fun zs h1 q1 F1 H1 vs e1 S1 rs => ⟨F1, h1, zs, S1, rs, q1.2.1, G.mo _ _ _ _ _ _ (fun _ _ z => LQ.ext e1 z) (fun _ _ z => LX.ext e1 z) q1.2.2⟩) (fun _ _ z => z) q⟩) fun ws s1 hh => ?_) hpl
  obtain ⟨ys, H1, I1, r1, F1, h1, zs, S1, rs, l, q1⟩ := hh
  refine ⟨I1.kIn, ?_⟩
  rw [hks]
  obtain ⟨xs, ts, rx, rt, bt⟩ := B.to s1 F1 [] zs [] ys [] ws I1.kIn rfl (l.trans hl.symm) .nil .nil rs r1
  exact wpAny_call (codeAny_mono (run_g (c.mono hj) G hz I1 bt rt ⟨F1, _, h1, S1, rx, q1⟩) fun r s' hr => by
    match r, hr with
    | .error _, hr => exact hr
    | .ok (.ret _), hr => exact hr)
/-- f(a, .., k = b, ..) -/
theorem ae_callK {n m j : Nat} {ks : List Str} {gg : List D → List D → List D} {S : FSpec} {x : Str} {p : Pos} (c : Cg gz X E k) (C : Cal gy X.prog X.w X.K X.mg X.base x j n ks gg S) (hj : j ≤ k) (hz : gy = true → gz = true) (ha : AA X E (e :: es) wl) (hkw : AK X E kws wk) (hl : ks.length = m := by rfl)
    (hg : Gl X x := by rfl) (hall : (backToKw pos (keywordEach kws X.env)).all (·.1.isSome) = true := by rfl) (hks : (backToKw pos (keywordEach kws X.env)).filterMap (·.1) = ks := by rfl) (hdb : (x == ("__debug__" : Str)) = false := by decide)
    (he : starEach (e :: es) X.env = (false, eval e X.env) :: starEach es X.env := by rfl)
    (hpl : ((backTo pos (starEach (e :: es) X.env)).any (·.1) || (backToKw pos (keywordEach kws X.env)).any (·.1.isNone)) = false := by rfl) : AE X E (.Call (.Name x p) (e :: es) kws pos) (wCall S n m gg wl wk) := by
  obtain ⟨f, fd, ps, hm, hk, G, B⟩ := C.ex
  refine ⟨⟨fun pins s σ H Q I hq => ?_⟩, fun ρ h0 Q Q' X X' hq hx q => ha.mo _ _ _ _ _ _ (fun ds h1 q1 => hkw.mo _ _ _ _ _ _ (fun zs h1 q1 => ⟨q1.1, q1.2.1, G.mo _ _ _ _ _ _ hq hx q1.2.2⟩) hx q1) hx q⟩
  obtain ⟨F, ρ, g, S0, R, q⟩ := hq
  refine wpAny_Call_Name_kw (ld_glob I hg hm ?_ hdb)
  refine PySem.W.callWith_KW (h₀ := X.base) I.ok.mod.kin hk hall (thn (ha.run.run pos pins s σ H (fun vs H1 => ∃ F1 h1 ds, Sim X.K F1 h1 H1 ∧ EnvR X.K F1 ρ σ ∧ Reps X.K F1 ds vs ∧ wk ρ h1 (fun zs h2 => ds.length = n ∧ zs.length = m ∧ S (gg ds zs) h2 (LQ X.K F1 Q) (LX X.K F1 E)) (LX X.K F1 E)) I
      ⟨F, ρ, g, S0, R, ha.mo _ _ _ _ _ _ (fun ds h1 q1 F1 H1 vs e1 S1 rs => ⟨F1, h1, ds, S1, R.ext e1, rs, hkw.mo _ _ _ _ _ _ (fun zs h2 q2 => ⟨q2.1, q2.2.1, G.mo _ _ _ _ _ _ (fun _ _ z => LQ.ext e1 z) (fun _ _ z => LX.ext e1 z) q2.2.2⟩) (fun _ _ z => LX.ext e1 z) q1⟩) (fun _ _ z => z) q⟩) fun us s1 hh => ?_) hpl he
  obtain ⟨vs, H1, I1, r1, F1, h1, ds, S1, R1, rs, q1⟩ := hh
  refine thn (hkw.run.run pos pins s1 σ H1 (fun ys H2 => ∃ F2 h2 zs, Ext F1 F2 ∧ Sim X.K F2 h2 H2 ∧ Reps X.K F2 zs ys ∧ ds.length = n ∧ zs.length = m ∧ S (gg ds zs) h2 (LQ X.K F2 Q) (LX X.K F2 E)) I1
      ⟨F1, ρ, h1, S1, R1, hkw.mo _ _ _ _ _ _ (fun zs h2 q2 F2 H2 ys e2 S2 rz => ⟨F2, h2, zs, e2, S2, rz, q2.1, q2.2.1, G.mo _ _ _ _ _ _ (fun _ _ z => LQ.ext e2 z) (fun _ _ z => LX.ext e2 z) q2.2.2⟩) (fun _ _ z => z) q1⟩) fun ws s2 hh => ?_
  obtain ⟨ys, H2, I2, r2, F2, h2, zs, e2, S2, rz, l1, l2, q2⟩ := hh
  refine ⟨I2.kIn, ?_⟩
  rw [hks]
  obtain ⟨xs, ts, rx, rt, bt⟩ := B.to s2 F2 ds zs vs ys us ws I2.kIn l1 (l2.trans hl.symm) (rs.ext e2) r1 rz r2
  exact wpAny_call (codeAny_mono (run_g (c.mono hj) G hz I2 bt rt ⟨F2, _, h2, S2, rx, q2⟩) fun r s' hr => by
    match r, hr with
    | .error _, hr => exact hr
    | .ok (.ret _), hr => exact hr)
end
/-- the parameters' values, picked from the positional ones and the keywords' -/
def pickD (ix : List Nat) (ds zs : List D) : List D := ix.map fun i => ((ds ++ zs)[i]?).getD .non
theorem Bnd.pick {K : PySem.W.Frag} {fd : FuncData} {ps : List Str} {n : Nat} {ks : List Str} (ix : List Nat) (hi : ∀ i ∈ ix, i < n + ks.length)
    (h : ∀ us ws : List Value, us.length = n → ws.length = ks.length → bindArgs fd ⟨us, ks.zip ws⟩ = pure (ps.zip (ix.map fun i => ((us ++ ws)[i]?).getD .none))) : Bnd K fd ps n ks (pickD ix) := by
  refine ⟨fun s F ds zs vs ys us ws X l1 l2 r1 r2 r3 r4 => ⟨ix.map fun i => ((vs ++ ys)[i]?).getD .non, ix.map fun i => ((us ++ ws)[i]?).getD .none, ?_, ?_, .of_eq (h us ws (by rw [← r2.length, ← r1.length]; exact l1) (by rw [← r4.length, ← r3.length]; exact l2))⟩⟩
  · have r := r1.append r3
    have l : (ds ++ zs).length = n + ks.length := by simp [l1, l2]
    clear h
    unfold pickD
    induction ix with
    | nil => exact .nil
    | cons i ix ih =>
      have li : i < (ds ++ zs).length := by rw [l]; exact hi i (List.mem_cons_self ..)
      obtain ⟨v, hv, rv⟩ := r.get (List.getElem?_eq_getElem li)
      refine .cons ?_ (ih fun j hj => hi j (List.mem_cons_of_mem _ hj))
      show _
      simp only [hv, List.getElem?_eq_getElem li]
      exact rv
  · have r := r2.append r4
    have l : (vs ++ ys).length = n + ks.length := by simp [← r1.length, ← r3.length, l1, l2]
    clear h
    induction ix with
    | nil => exact .nil
    | cons i ix ih =>
      have li : i < (vs ++ ys).length := by rw [l]; exact hi i (List.mem_cons_self ..)
      obtain ⟨v, hv, rv⟩ := r.get (List.getElem?_eq_getElem li)
      refine .cons ?_ (ih fun j hj => hi j (List.mem_cons_of_mem _ hj))
      show _
      simp only [hv, List.getElem?_eq_getElem li]
      exact rv
end DL
namespace DL
open PySem PySem.Spec L2 C8 PyProof.Rows

/-! ### the law is called -/
section
variable {P : Program} {w : World} {K : PySem.W.Frag} {mg bm : Str → Option Value} {k : Nat} {fa q : Addr} {fd : FuncData} {x : Str} {S : FSpec} {t : Shared} {us : List Value} {js : List Int}
/-- what is tracked at the start: the script at most -/
structure Beg (K : PySem.W.Frag) (P : Program) (w : World) (H : Hp) (hp : Heap) (q : Addr) (js : List Int) : Prop where
  sq : SqL K H q (js.map V.int)
  ok : HOk P w H hp
  at_ : ∀ b, H b ≠ none → b = q
  out : H q ≠ none → K.lookup q = none
  fz : ∀ b, H b = none ∨ ∃ ob ys, H b = some (.frz ob (.lst ys))
theorem beg_of (KX : K.In t.heap) (hq : t.heap.get? q = some { cls := .type "list", data := .seq us.toArray }) (ia : IntsAre us js) (lj : js.length ≤ sizeLine) : ∃ H, Beg K P w H t.heap q js := by
  have rv := vals_ints ia
  have el := ia.length
  cases kq : K.lookup q with
  | some ob =>
    have e := (KX q ob kq).symm.trans hq
    obtain rfl := Option.some.inj e
    refine ⟨fun _ => none, .inr ⟨_, _, _, kq, rfl, rfl, rfl, ?_, by simpa using rv⟩, fun b u z => ?_, fun b z => absurd rfl z, fun z => absurd rfl z, fun b => .inl rfl⟩
    · rw [List.size_toArray, el]; exact lj
    · exact absurd (show (none : Option HO) = some u from z) (by simp)
  | none =>
    have tr : ∀ b : Addr, (if b = q then some (HO.frz { cls := .type "list", data := .seq us.toArray } (.lst (js.map V.int))) else none : Option HO) ≠ none → b = q := fun b z => by
      by_cases c : b = q
      · exact c
      · exact absurd (if_neg c) z
    refine ⟨fun b => if b = q then some (.frz { cls := .type "list", data := .seq us.toArray } (.lst (js.map V.int))) else none, .inl (.inr ⟨_, if_pos rfl⟩), fun b u z => ?_, tr, fun _ => kq, fun b => ?_⟩
    · have c : b = q := tr b (by intro n; exact absurd (n.symm.trans z) (by simp))
      subst c
      obtain rfl := Option.some.inj ((if_pos rfl).symm.trans z)
      exact ⟨hq, by rw [List.length_map]; exact lj, us, _, rv, hq⟩
    · by_cases c : b = q
      · exact .inr ⟨_, _, if_pos c⟩
      · exact .inl (if_neg c)
theorem dl_call (KX : K.In t.heap) (n1 : t.heap.Ns mainGlobals mg) (n2 : t.heap.Ns builtinsNs bm) (bb : ∀ y : Str, y ≠ "__name__" → bm y = bootBuiltins y) (nl : t.heap.NoLimit) (ng : t.gens = #[])
    (hq : t.heap.get? q = some { cls := .type "list", data := .seq us.toArray }) (ia : IntsAre us js) (lj : js.length ≤ sizeLine) (rm : Room k callerA)
    (G : ∀ base : Heap, K.In base → base.Ns mainGlobals mg → FnG gz P w K mg base k fa fd [x] S) (hb : ∀ (s : Shared) (u : Value), BindsTo s fd ⟨[u], []⟩ [(x, u)])
    (hS : S [.lk (js.map D.int)] (fun _ => none) (fun d _ => d = .bl true) (fun _ _ => False)) :
    codeAny (model P w) callerA (.call (.ref fa) ⟨[.ref q], []⟩) (fun r s' => r = .ok (.ret (.bool true)) ∧ OldK t.heap s'.heap ∧ s'.os = t.os ∧ AllBare s'.gens) t := by
  obtain ⟨H, B⟩ := beg_of (P := P) (w := w) KX hq ia lj
  have low : ∀ {b : Addr} {ob : Obj}, t.heap.get? b = some ob → H b = none → (hidT t.heap H).get? b = some ob := fun e z => hidT_get e z
  have noD : ∀ {b : Addr} {ob : Obj} {es : Array DictEntry} {ep : Nat}, t.heap.get? b = some ob → ob.data = .dict es ep → H b = none := by
    intro b ob es ep e d
    by_cases z : H b = none
    · exact z
    · obtain rfl := B.at_ b z
      obtain rfl := Option.some.inj (e.symm.trans hq)
      exact absurd (show Data.seq us.toArray _ = Data.dict es ep from d) (by intro h; cases h)
  have ns : ∀ {b : Addr} {m : Str → Option Value}, t.heap.Ns b m → (hidT t.heap H).Ns b m := fun ⟨ob, es, ep, e, d, r⟩ => ⟨ob, es, ep, low e (noD e d), d, r⟩
  have hK : K.In (hidT t.heap H) := fun b ob e => low (KX b ob e) (by
    by_cases z : H b = none
    · exact z
    · obtain rfl := B.at_ b z
      rw [B.out z] at e; cases e)
  have M : Mod K mg (hidT t.heap H) := by
    obtain ⟨mc, l1, l2⟩ := nl
    exact ⟨hK, ns n1, ⟨bm, ns n2, bb⟩, mc, ns l1, l2⟩
  have none_in : ∀ {b : Addr}, b ∉ ([] : List Addr) := fun h => by cases h
  have e0 : Env0 P w K mg (hidT t.heap H) callerA [] t H := ⟨rfl, M, fun b ob e => of_hidT e, Nat.le_of_eq (hidT_size _ _), trivial, fun b h => absurd h none_in, B.ok, .of_eq ng⟩
  have sp : spD K S [.ref q] H (fun v _ => v = .bl true) (fun _ _ _ => False) := by
    refine ⟨H, _, fun _ => none, ⟨fun _ _ e => e, fun b ob e => by cases e⟩, .cons (.lk B.sq ?_) .nil, (G _ hK (ns n1)).mo _ _ _ _ _ _ (fun d h e => ?_) (fun _ _ z => z.elim) hS⟩
    · clear hS hq ia lj B e0
      induction js with
      | nil => exact .nil
      | cons j js ih => exact .cons (.int j) ih
    · intro F' H' v _ _ r
      subst e
      cases r; rfl
  refine codeAny_mono ((G _ hK (ns n1)).run (args := ⟨[.ref q], []⟩) (us := [.ref q]) (vs := [.ref q]) rm (fun _ => rfl) e0 (hb t (.ref q)) (.cons rfl .nil) sp) fun r s' h => ?_
  match r, h with
  | .error e, h => obtain ⟨_, _, _, _, _, _, _, _, _, _, _, _, h⟩ := h; exact h.elim
  | .ok (.ret u), h =>
    obtain ⟨v, H2, os, bare, un, ok2, r2, e⟩ := h
    have e : v = .bl true := e
    subst e
    obtain rfl : u = Value.bool true := r2
    refine ⟨rfl, OldK.of_keep fun b ob e => ?_, os, bare⟩
    rcases B.fz b with z | ⟨o2, ys, z⟩
    · exact un.keep b ob e z none_in (by simp)
    · have d1 := (B.ok b _ z).1
      have d2 := (ok2 b _ (un.frzs b o2 _ z)).1
      rw [d1] at e
      obtain rfl := Option.some.inj e
      exact d2
  | .ok .next, h => exact h.elim
  | .ok .brk, h => exact h.elim
  | .ok .cont, h => exact h.elim
/-- what the head leaves (case hc), from the law's promise -/
theorem dl_walk {l : PySem.W.OpenLaw} {n k : Nat} {p : Program} {loose : List Str} {XP : (Str → Option Value) → Heap → Prop} {YP : World → Heap → Prop} {d : DefRec} {K : Params → PySem.W.Frag} {S : FSpec} {x : Str}
    (hn : l.most = some n) (hz : n ≤ sizeLine) (hd : d.params.defaults = []) (rm : Room k callerA) (hY : ∀ (w : World) (h : Heap), YP w h → (K w.params).In h)
    (G : ∀ (w : World) (mg : Str → Option Value) (fa : Addr) (h : Heap), (K w.params).In h → h.Ns mainGlobals mg → mg d.name = some (.ref fa) →
      ∃ fd : FuncData, (∀ (s : Shared) (u : Value), BindsTo s fd ⟨[u], []⟩ [(x, u)]) ∧ ∀ base : Heap, (K w.params).In base → base.Ns mainGlobals mg → FnG gz l.prog w (K w.params) mg base k fa fd [x] S)
    (hS : ∀ js : List Int, js.length ≤ n → S [.lk (js.map D.int)] (fun _ => none) (fun d _ => d = .bl true) (fun _ _ => False)) :
    PySem.W.WalkO p loose XP YP l.row.toRowW d [] (fun f vs => PySem.call f vs) := by
  refine Att.attach_call hn hd fun w t0 t mg bm fa ob pm cd doc q us js Gr Y ho hdat hcd hmg hq ia lj ng => ?_
  obtain ⟨fd, hb, hF⟩ := G w mg fa _ (hY w _ Y) Gr.T.g hmg
  exact dl_call (hY w _ Y) Gr.T.g Gr.T.b Gr.T.builtins Gr.T.nolimit ng hq ia (Nat.le_trans lj hz) rm hF hb (hS js lj)
end
end DL
namespace DL
open PySem PySem.Spec L2 C8
section
variable {X : Cx} {E : XK} {k : Nat} {a b c e : Expr} {wa wb wc : WE} {pos : Pos} {op op' : CmpOp} {r r' : R2} {f g : D → D → AH → KD → Prop}
theorem to_chain (ok : OpD X.K r f) (ok' : OpD X.K r' g) (ha : AE X E a wa) (hb : AE X E b wb) (hc : AE X E c wc) {σ : L2.St} {H : Hp} {Q : VK} (h : tE X.K E (wChain f g wa wb wc) σ H Q) : tChain r r' (tE X.K E wa) (tE X.K E wb) (tE X.K E wc) σ H Q := by
  obtain ⟨F, ρ, g0, S, R, q⟩ := h
  refine ⟨F, ρ, g0, S, R, ha.mo _ _ _ _ _ _ (fun x h1 hx => ?_) (fun _ _ z => z) q⟩
  intro F1 H1 vx e1 S1 rx
  refine ⟨F1, ρ, h1, S1, R.ext e1, hb.mo _ _ _ _ _ _ (fun y h2 hf => ?_) (fun _ _ z => LX.ext e1 z) hx⟩
  intro F2 H2 vy e2 S2 ry
  refine ok.to S2 (rx.ext e2) ry (ok.mo (fun z h3 hz => ?_) hf)
  intro F3 H3 v3 e3 S3 r3
  split at hz
  · rename_i kk
    cases r3
    refine ⟨kk, rfl, ?_⟩
    split at hz
    · rename_i ck
      rw [if_pos ck]
      refine ⟨F3, ρ, h3, S3, R.ext (e1.trans (e2.trans e3)), hc.mo _ _ _ _ _ _ (fun u h4 hg => ?_) (fun _ _ z => LX.ext (e1.trans (e2.trans e3)) z) hz⟩
      intro F4 H4 vu e4 S4 ru
      exact ok'.to S4 (ry.ext (e3.trans e4)) ru (ok'.mo (fun _ _ z => LQ.ext (e1.trans (e2.trans (e3.trans e4))) z) hg)
    · rename_i ck
      rw [if_neg ck]
      exact hz F3 H3 _ (e1.trans (e2.trans e3)) S3 (.bl _)
  · exact hz.elim
theorem at_chain2 (ok : OpD X.K r f) (ok' : OpD X.K r' g) (ho : OpR X (compareOp op) r) (ho' : OpR X (compareOp op') r') (ha : AE X E a wa) (hb : AE X E b wb) (hc : AE X E c wc)
    (hm : lastMarks [op, op'] [b, c] = false := by with_unfolding_all rfl) : AT X E (.Compare a [op, op'] [b, c] pos) (wTest (wChain f g wa wb wc)) := by
  have M : MoE (wChain f g wa wb wc) := mo_chain ok.mo ok'.mo ha.mo hb.mo hc.mo
  refine ⟨PT.imp (pt_chain ho ho' ha.run hb.run hc.run hm) fun σ H Q ⟨F, ρ, g0, S, R, q⟩ => ?_, fun ρ h Q Q' X X' hq hx q => M _ _ _ _ _ _ (fun x h1 q1 => ?_) hx q⟩
  · refine to_chain ok ok' ha hb hc ⟨F, ρ, g0, S, R, M _ _ _ _ _ _ (fun x h1 hx => ?_) (fun _ _ z => z) q⟩
    intro F1 H1 vx e1 S1 rx
    split at hx
    · cases rx; exact ⟨_, rfl, hx F1 H1 e1 S1⟩
    · exact hx.elim
  · split at q1
    · exact hq _ _ q1
    · exact q1.elim
theorem ae_chain2 (ok : OpD X.K r f) (ok' : OpD X.K r' g) (ho : OpR X (compareOp op) r) (ho' : OpR X (compareOp op') r') (ha : AE X E a wa) (hb : AE X E b wb) (hc : AE X E c wc)
    (hm : lastMarks [op, op'] [b, c] = false := by with_unfolding_all rfl) : AE X E (.Compare a [op, op'] [b, c] pos) (wChain f g wa wb wc) :=
  ⟨PE.imp (pe_chain ho ho' ha.run hb.run hc.run hm) fun σ H Q h => to_chain ok ok' ha hb hc h, mo_chain ok.mo ok'.mo ha.mo hb.mo hc.mo⟩
end
/-! ### the built-in names -/
theorem bb_len : bootBuiltins "len" = some (.builtin "len") := by decide +kernel
theorem bb_abs : bootBuiltins "abs" = some (.builtin "abs") := by decide +kernel
theorem bb_max : bootBuiltins "max" = some (.builtin "max") := by decide +kernel
theorem bb_min : bootBuiltins "min" = some (.builtin "min") := by decide +kernel
theorem bb_sum : bootBuiltins "sum" = some (.builtin "sum") := by decide +kernel
theorem bb_all : bootBuiltins "all" = some (.builtin "all") := by decide +kernel
theorem bb_any : bootBuiltins "any" = some (.builtin "any") := by decide +kernel
theorem bb_repr : bootBuiltins "repr" = some (.builtin "repr") := by decide +kernel
theorem bb_isinstance : bootBuiltins "isinstance" = some (.builtin "isinstance") := by decide +kernel
theorem bb_int : bootBuiltins "int" = some (.type "int") := by decide +kernel
theorem bb_bool : bootBuiltins "bool" = some (.type "bool") := by decide +kernel
theorem bb_str : bootBuiltins "str" = some (.type "str") := by decide +kernel
theorem bb_list : bootBuiltins "list" = some (.type "list") := by decide +kernel
theorem bb_tuple : bootBuiltins "tuple" = some (.type "tuple") := by decide +kernel
theorem bb_dict : bootBuiltins "dict" = some (.type "dict") := by decide +kernel
/-- a name of the module that holds an int -/
theorem cst_int {K : PySem.W.Frag} {mg : Str → Option Value} {x : Str} {i : Int} {t : Tok} (h : mg x = some (.int i t)) : Cst K mg x (.int i) := ⟨⟨.int i, _, h, ⟨t, rfl⟩, fun _ => .int i⟩⟩
theorem cst_str {K : PySem.W.Frag} {mg : Str → Option Value} {x i : Str} {t : Tok} (h : mg x = some (.str i t)) : Cst K mg x (.str i) := ⟨⟨.str i, _, h, ⟨t, rfl⟩, fun _ => .str i⟩⟩
theorem cst_bl {K : PySem.W.Frag} {mg : Str → Option Value} {x : Str} {i : Bool} (h : mg x = some (.bool i)) : Cst K mg x (.bl i) := ⟨⟨.bl i, _, h, rfl, fun _ => .bl i⟩⟩
theorem cst_non {K : PySem.W.Frag} {mg : Str → Option Value} {x : Str} (h : mg x = some .none) : Cst K mg x .non := ⟨⟨.non, _, h, rfl, fun _ => .non⟩⟩
end DL
namespace DL
open PySem PySem.Spec L2 C8

/-! ### how the readings unfold -/
section
variable {ρ : EnvD} {h : AH} {Q : KD} {X : KX} {D0 : EndsD} {a b c : WE} {s1 s2 : WS} {t u : WT} {i j : Int} {m : Bool} {xs : List D} {d x y z : D}
theorem u_seq : wSeq s1 s2 D0 ρ h = s1 { D0 with nx := s2 D0 } ρ h := rfl
theorem u_asg {g : WG} : wAsg a g D0 ρ h = a ρ h (fun x h1 => g x ρ h1 D0.nx D0.ex) D0.ex := rfl
theorem u_gN {n : Nat} {Q : EnvD → AH → Prop} : gN n d ρ h Q X = Q (ρ.set n (some d)) h := rfl
theorem u_ret : wRet a D0 ρ h = a ρ h D0.rt D0.ex := rfl
theorem u_retN : wRetN D0 ρ h = D0.rt .non h := rfl
theorem u_skip : wSkip D0 ρ h = D0.nx ρ h := rfl
theorem u_expr : wExpr a D0 ρ h = a ρ h (fun _ h1 => D0.nx ρ h1) D0.ex := rfl
theorem u_ifs : wIfS t s1 s2 D0 ρ h = t ρ h (fun c h1 => if c = true then s1 D0 ρ h1 else s2 D0 ρ h1) D0.ex := rfl
theorem u_c : wC d ρ h Q X = Q d h := rfl
theorem u_var {n : Nat} (e : ρ[n]? = some (some d)) : wVar n ρ h Q X = Q d h := by simp [wVar, e]
theorem u_op {f : D → D → AH → KD → Prop} : wOp f a b ρ h Q X = a ρ h (fun x h1 => b ρ h1 (fun y h2 => f x y h2 Q) X) X := rfl
theorem u_neg : wNeg a ρ h Q X = a ρ h (fun x h1 => match x with
  | .int i => Q (.int (-i)) h1
  | _ => False) X := rfl
theorem u_test {Q : Bool → AH → Prop} : wTest a ρ h Q X = a ρ h (fun x h1 => match x with
  | .bl b => Q b h1
  | _ => False) X := rfl
theorem u_and {Q : Bool → AH → Prop} : wAnd t u ρ h Q X = t ρ h (fun c h1 => if c = true then u ρ h1 Q X else Q false h1) X := rfl
theorem u_or {Q : Bool → AH → Prop} : wOr t u ρ h Q X = t ρ h (fun c h1 => if c = true then Q true h1 else u ρ h1 Q X) X := rfl
theorem u_not {Q : Bool → AH → Prop} : wNot t ρ h Q X = t ρ h (fun c h1 => Q (!c) h1) X := rfl
theorem u_if : wIf t a b ρ h Q X = t ρ h (fun c h1 => if c = true then a ρ h1 Q X else b ρ h1 Q X) X := rfl
theorem u_nil {Q : List D → AH → Prop} : wNil ρ h Q X = Q [] h := rfl
theorem u_cons {r : WA} {Q : List D → AH → Prop} : wCons a r ρ h Q X = a ρ h (fun x h1 => r ρ h1 (fun xs h2 => Q (x :: xs) h2) X) X := rfl
theorem u_tup {l : WA} : wTup l ρ h Q X = l ρ h (fun xs h1 => xs.length ≤ sizeLine ∧ Q (.tup xs) h1) X := rfl
theorem u_lst {l : WA} : wLst m l ρ h Q X = l ρ h (fun xs h1 => xs.length ≤ sizeLine ∧ newL m xs h1 Q) X := rfl
theorem u_callP {S : FSpec} {n : Nat} {g : List D → List D → List D} {l : WA} : wCallP S n g l ρ h Q X = l ρ h (fun ds h1 => ds.length = n ∧ S (g ds []) h1 Q X) X := rfl
theorem u_call {S : FSpec} {n k : Nat} {g : List D → List D → List D} {l r : WA} : wCall S n k g l r ρ h Q X = l ρ h (fun ds h1 => r ρ h1 (fun zs h2 => ds.length = n ∧ zs.length = k ∧ S (g ds zs) h2 Q X) X) X := rfl
theorem u_b {r : List D → AH → KD → Prop} {l : WA} : wB r l ρ h Q X = l ρ h (fun xs h1 => r xs h1 Q) X := rfl
theorem u_chain {f g : D → D → AH → KD → Prop} : wChain f g a b c ρ h Q X = a ρ h (fun x h1 => b ρ h1 (fun y h2 => f x y h2 fun z h3 => match z with
  | .bl k => if k = true then c ρ h3 (fun u h4 => g y u h4 Q) X else Q (.bl false) h3
  | _ => False) X) X := rfl
theorem u_andV : wAndV a b ρ h Q X = a ρ h (fun x h1 => match x with
  | .bl k => if k = true then b ρ h1 Q X else Q (.bl false) h1
  | _ => False) X := rfl
theorem u_addI : dAdd m (.int i) (.int j) h Q = Q (.int (i + j)) h := rfl
theorem u_subI : dSub (.int i) (.int j) h Q = Q (.int (i - j)) h := rfl
theorem u_mulI : dMul m (.int i) (.int j) h Q = (MulOk i j ∧ Q (.int (i * j)) h) := rfl
theorem u_divI : dDiv (.int i) (.int j) h Q = (DivOk j ∧ Q (.int (i / j)) h) := rfl
theorem u_modI : dMod (.int i) (.int j) h Q = (0 < j ∧ Q (.int (i % j)) h) := rfl
theorem u_powI : dPow (.int i) (.int j) h Q = (PowOk i j ∧ Q (.int (i ^ j.toNat)) h) := rfl
theorem u_cmpI {f : Int → Int → Bool} : dCmpI f (.int i) (.int j) h Q = Q (.bl (f i j)) h := rfl
theorem u_eqI {f : Bool → Bool} : dEq f (.int i) (.int j) h Q = Q (.bl (f (decide (i = j)))) h := rfl
theorem u_eqS {f : Bool → Bool} {i j : Str} : dEq f (.str i) (.str j) h Q = Q (.bl (f (decide (i = j)))) h := rfl
theorem u_eqB {f : Bool → Bool} {i j : Bool} : dEq f (.bl i) (.bl j) h Q = Q (.bl (f (decide (i = j)))) h := rfl
theorem u_ixL : dIx (.lst xs) (.int i) h Q = ∃ d, atI xs i = some d ∧ Q d h := by simp [dIx, seqOf, lstOf]
theorem u_ixT : dIx (.tup xs) (.int i) h Q = ∃ d, atI xs i = some d ∧ Q d h := by simp [dIx, seqOf]
theorem u_ixR {p : Addr} (e : h p = some (.lst xs)) : dIx (.ref p) (.int i) h Q = ∃ d, atI xs i = some d ∧ Q d h := by simp [dIx, seqOf, lstOf, e]
theorem u_ixLd (e : atI xs i = some d) : dIx (.lst xs) (.int i) h Q = Q d h := by simp [u_ixL, e]
theorem u_ixTd (e : atI xs i = some d) : dIx (.tup xs) (.int i) h Q = Q d h := by simp [u_ixT, e]
theorem u_ixRd {p : Addr} (e : h p = some (.lst xs)) (e2 : atI xs i = some d) : dIx (.ref p) (.int i) h Q = Q d h := by simp [u_ixR e, e2]
theorem at0 : atI (x :: xs) 0 = some x := by simp [atI, ixN]
theorem at1 : atI (x :: y :: xs) 1 = some y := by
  have : (1 : Int) < (xs.length : Int) + 1 + 1 := by omega
  simp [atI, ixN, this]
theorem at2 : atI (x :: y :: z :: xs) 2 = some z := by
  have : (2 : Int) < (xs.length : Int) + 1 + 1 + 1 := by omega
  simp [atI, ixN, this]
theorem u_abs : dAbs [.int i] h Q = Q (.int (if i < 0 then -i else i)) h := rfl
theorem u_intI : dInt [.int i] h Q = Q (.int i) h := rfl
theorem u_intB {k : Bool} : dInt [.bl k] h Q = Q (.int (if k then 1 else 0)) h := rfl
theorem u_lenL : dLen [.lst xs] h Q = Q (.int (xs.length : Nat)) h := by simp [dLen, lenD, cur]
theorem u_lenT : dLen [.tup xs] h Q = Q (.int (xs.length : Nat)) h := by simp [dLen, lenD, cur]
theorem u_lenR {p : Addr} (e : h p = some (.lst xs)) : dLen [.ref p] h Q = Q (.int (xs.length : Nat)) h := by simp [dLen, lenD, cur, e]
theorem u_newT : newL true xs h Q = ∀ p, h p = none → Q (.ref p) (up h p (.lst xs)) := by simp [newL]
theorem u_newF : newL false xs h Q = Q (.lst xs) h := by simp [newL]
theorem u_isN : dIsN (fun b => b) .non .non h Q = Q (.bl true) h := rfl
theorem u_notN : dIsN (fun b => !b) .non .non h Q = Q (.bl false) h := rfl
end
/-! ### == of lists -/
theorem pd_ints (cs : List Int) : pds (cs.map D.int) = cs.map PyData.int := by
  induction cs with
  | nil => rfl
  | cons c cs ih => rw [List.map_cons, pds, ih, pd]; rfl
theorem dats_ints (cs : List Int) : dats (cs.map D.int) = true := by
  induction cs with
  | nil => rfl
  | cons c cs ih => rw [List.map_cons, dats, ih]; rfl
theorem lay_ints (cs : List Int) : PyData.canLayAll0 (cs.map PyData.int) = true := by
  induction cs with
  | nil => rw [List.map_nil, PyData.canLayAll0]
  | cons c cs ih => rw [List.map_cons, PyData.canLayAll0, ih, PyData.canLay0]; rfl
theorem dep_ints (cs : List Int) : PyData.depthAll (cs.map PyData.int) = 0 := by
  induction cs with
  | nil => rw [List.map_nil, PyData.depthAll]
  | cons c cs ih => rw [List.map_cons, PyData.depthAll, ih, PyData.depth]; rfl
theorem sh_lst (cs : List Int) : SeqAt.shaped (pd (.lst (cs.map D.int))) = true := by
  rw [pd, pd_ints]; unfold SeqAt.shaped
  rw [PyData.canLay0, PyData.depth, lay_ints, dep_ints]; rfl
theorem sh_tup (cs : List Int) : SeqAt.shaped (pd (.tup (cs.map D.int))) = true := by
  rw [pd, pd_ints]; unfold SeqAt.shaped
  rw [PyData.canLay0, PyData.depth, lay_ints, dep_ints]; rfl
theorem eqv_ints : ∀ cs ds : List Int, PyData.eqvAll (cs.map PyData.int) (ds.map PyData.int) = decide (cs = ds)
  | [], [] => by rw [List.map_nil, PyData.eqvAll]; rfl
  | [], d :: ds => by rw [List.map_nil, List.map_cons, PyData.eqvAll]; rfl
  | c :: cs, [] => by rw [List.map_nil, List.map_cons, PyData.eqvAll]; rfl
  | c :: cs, d :: ds => by
    rw [List.map_cons, List.map_cons, PyData.eqvAll, PyData.eqv, eqv_ints cs ds]
    by_cases e : c = d <;> simp [e]
theorem eq_lst {f : Bool → Bool} {cs ds : List Int} {h : AH} {Q : KD} (q : Q (.bl (f (decide (cs = ds)))) h) : dEq f (.lst (cs.map D.int)) (.lst (ds.map D.int)) h Q := by
  refine ⟨by show dats _ = true; exact dats_ints cs, by show dats _ = true; exact dats_ints ds, sh_lst cs, sh_lst ds, ?_⟩
  show Q (.bl (f (PyData.eqv (pd (.lst (cs.map D.int))) (pd (.lst (ds.map D.int)))))) h
  rw [pd, pd, PyData.eqv, pd_ints, pd_ints, eqv_ints]; exact q
theorem eq_tup {f : Bool → Bool} {cs ds : List Int} {h : AH} {Q : KD} (q : Q (.bl (f (decide (cs = ds)))) h) : dEq f (.tup (cs.map D.int)) (.tup (ds.map D.int)) h Q := by
  refine ⟨by show dats _ = true; exact dats_ints cs, by show dats _ = true; exact dats_ints ds, sh_tup cs, sh_tup ds, ?_⟩
  show Q (.bl (f (PyData.eqv (pd (.tup (cs.map D.int))) (pd (.tup (ds.map D.int)))))) h
  rw [pd, pd, PyData.eqv, pd_ints, pd_ints, eqv_ints]; exact q
theorem eq_nil {f : Bool → Bool} {cs : List Int} {h : AH} {Q : KD} (q : Q (.bl (f (decide (cs = [])))) h) : dEq f (.lst (cs.map D.int)) (.lst []) h Q := eq_lst (ds := []) q
/-- a statement, then the rest, over what stands between -/
theorem seq_go {s1 s2 : WS} {D0 : EndsD} {ρ : EnvD} {h : AH} (P : EnvD → AH → Prop) (h1 : ∀ K : EnvD → AH → Prop, (∀ ρ h, P ρ h → K ρ h) → s1 { D0 with nx := K } ρ h) (h2 : ∀ ρ h, P ρ h → s2 D0 ρ h) : wSeq s1 s2 D0 ρ h := h1 _ h2
theorem loop_go {st : AH → Prop} {g : WG} {tb : WS} {Z : EndsD} {xs : List D} {ρ : EnvD} {h : AH} (P : Nat → EnvD → AH → Prop) (h0 : P 0 ρ h) (hst : ∀ i ρ h, P i ρ h → st h)
    (hs : ∀ i x ρ h (K : EnvD → AH → Prop), xs[i]? = some x → P i ρ h → (∀ ρ h, P (i + 1) ρ h → K ρ h) → g x ρ h (fun ρ2 h2 => tb { Z with nx := K, ct := K, bk := Z.nx } ρ2 h2) Z.ex) (hd : ∀ ρ h, P xs.length ρ h → Z.nx ρ h) : loopD st g tb Z xs ρ h := by
  suffices H : ∀ (n i : Nat), xs.length - i = n → i ≤ xs.length → ∀ ρ h, P i ρ h → loopD st g tb Z (xs.drop i) ρ h by
    simpa using H xs.length 0 (by simp) (Nat.zero_le _) ρ h h0
  intro n
  induction n with
  | zero =>
    intro i e l ρ h p
    obtain rfl : i = xs.length := by omega
    rw [List.drop_length]
    exact ⟨hst _ _ _ p, hd _ _ p⟩
  | succ n ih =>
    intro i e l ρ h p
    have lt : i < xs.length := by omega
    rw [List.drop_eq_getElem_cons lt]
    exact ⟨hst _ _ _ p, hs i _ ρ h (loopD st g tb Z (xs.drop (i + 1))) (List.getElem?_eq_getElem lt) p fun ρ h q => ih (i + 1) (by omega) lt ρ h q⟩
/-- a comprehension: P by the turn and the heap -/
theorem comp_go {st : AH → Prop} {g : WG} {tt : WT} {te : WE} {vs : List Nat} {ρ : EnvD} {p : Addr} {xs : List D} {h : AH} {Q : AH → Prop} (P : Nat → AH → Prop) (h0 : P 0 h) (hst : ∀ i h, P i h → st h)
    (hs : ∀ i x h (K : AH → Prop), xs[i]? = some x → P i h → (∀ h, P (i + 1) h → K h) → g x (wipeD ρ vs) h (fun ρ2 h2 => tt ρ2 h2 (fun b h3 => if b = true then te ρ2 h3 (fun y h4 => ∃ acc, h4 p = some (.lst acc) ∧ acc.length < sizeLine ∧ K (up h4 p (.lst (acc ++ [y])))) (fun _ _ => False) else K h3) (fun _ _ => False)) (fun _ _ => False))
    (hd : ∀ h, P xs.length h → Q h) : compD st g tt te vs ρ p xs h Q := by
  suffices H : ∀ (n i : Nat), xs.length - i = n → i ≤ xs.length → ∀ h, P i h → compD st g tt te vs ρ p (xs.drop i) h Q by
    simpa using H xs.length 0 (by simp) (Nat.zero_le _) h h0
  intro n
  induction n with
  | zero =>
    intro i e l h p
    obtain rfl : i = xs.length := by omega
    rw [List.drop_length]
    exact ⟨hst _ _ p, hd _ p⟩
  | succ n ih =>
    intro i e l h q
    have lt : i < xs.length := by omega
    rw [List.drop_eq_getElem_cons lt]
    exact ⟨hst _ _ q, hs i _ h (fun h => compD st g tt te vs ρ p (xs.drop (i + 1)) h Q) (List.getElem?_eq_getElem lt) q fun h z => ih (i + 1) (by omega) lt h z⟩
/-- .. where the heap is as it was but for the new list, whose items come one by one: f item or none -/
theorem comp_pure {st : AH → Prop} {g : WG} {tt : WT} {te : WE} {vs : List Nat} {ρ : EnvD} {p : Addr} {xs : List D} {h : AH} {Q : AH → Prop} (f : D → Option D) (hst : ∀ acc, st (up h p (.lst acc))) (hl : xs.length ≤ sizeLine)
    (hs : ∀ x acc (K : AH → Prop), x ∈ xs → acc.length < sizeLine → K (up h p (.lst (acc ++ (f x).toList))) → g x (wipeD ρ vs) (up h p (.lst acc)) (fun ρ2 h2 => tt ρ2 h2 (fun b h3 => if b = true then te ρ2 h3 (fun y h4 => ∃ acc, h4 p = some (.lst acc) ∧ acc.length < sizeLine ∧ K (up h4 p (.lst (acc ++ [y])))) (fun _ _ => False) else K h3) (fun _ _ => False)) (fun _ _ => False))
    (hd : Q (up h p (.lst (xs.filterMap f)))) : compD st g tt te vs ρ p xs (up h p (.lst [])) Q := by
  refine comp_go (fun i h' => ∃ acc, acc = (xs.take i).filterMap f ∧ h' = up h p (.lst acc)) ⟨[], by simp, rfl⟩ (fun i h' ⟨acc, _, e⟩ => e ▸ hst acc) ?_ ?_
  · rintro i x h' K e ⟨acc, rfl, rfl⟩ k
    have li := (List.getElem?_eq_some_iff.mp e).1
    refine hs x _ K (List.mem_of_getElem? e) ?_ (k _ ⟨_, ?_, rfl⟩)
    · have := List.length_filterMap_le f (xs.take i)
      simp at this; omega
    · rw [List.take_succ, e, Option.toList_some, List.filterMap_append]
      congr 1
  · rintro h' ⟨acc, rfl, rfl⟩
    rw [List.take_length]
    exact hd
end DL
namespace DL
open PySem PySem.Spec L2 C8
/-! ### the pen: cells, where it stands, what is left of a great cell -/
def PenO (n : Int) (o : AO) : Prop := ∃ (cs : List Int) (at_ gr : Int), o = .lst [.lst (cs.map D.int), .int at_, .int gr] ∧ cs.length ≤ 63 ∧ 0 ≤ at_ ∧ at_ ≤ n ∧ 0 ≤ gr
def PenAt (n : Int) (h : AH) (p : Addr) : Prop := ∃ o, h p = some o ∧ PenO n o
theorem PenO.mono {n m : Int} {o : AO} (h : PenO n o) (l : n ≤ m) : PenO m o := by
  obtain ⟨cs, a, g, rfl, l1, l2, l3, l4⟩ := h
  exact ⟨cs, a, g, rfl, l1, l2, by omega, l4⟩
def S_draw : FSpec := fun ds h Q _ => ∃ (n : Int) (p : Addr) (m : Int), ds = [.ref p, .int m] ∧ PenAt n h p ∧ n < 1000000 ∧ DivOk m ∧ ∀ v o, 0 ≤ v → v < m → PenO (n + 1) o → Q (.int v) (up h p o)
theorem mo_draw : MoF S_draw := fun ds h Q Q' X X' hq _ ⟨n, p, m, e, e1, e2, e3, q⟩ => ⟨n, p, m, e, e1, e2, e3, fun v o h1 h2 h3 => hq _ _ (q v o h1 h2 h3)⟩
theorem len_draw : ∀ ds h Q X, S_draw ds h Q X → ds.length = 2 := fun ds h Q X ⟨n, p, m, e, _⟩ => by rw [e]; rfl
def S_pen : FSpec := fun ds h Q _ => ∃ js : List Int, ds = [.lk (js.map D.int)] ∧ ∀ p o, h p = none → PenO 0 o → Q (.ref p) (up h p o)
theorem mo_pen : MoF S_pen := fun ds h Q Q' X X' hq _ ⟨js, e, q⟩ => ⟨js, e, fun p o h1 h2 => hq _ _ (q p o h1 h2)⟩
theorem len_pen : ∀ ds h Q X, S_pen ds h Q X → ds.length = 1 := fun ds h Q X ⟨js, e, _⟩ => by rw [e]; rfl
def w_pen : WS := (wRet (wLst true (wCons (wB (dListOf false) (wCons (wSl false (wVar 0) woNone (woSome (wC (.int 63)))) wNil)) (wCons (wC (.int 0)) (wCons (wC (.int 0)) wNil)))))
theorem cut_to {α : Type} (xs : List α) (n : Nat) : cutD xs none (some (n : Int)) = xs.take n := by
  unfold cutD
  have e0 : HT.sIx xs.length 0 none = 0 := rfl
  rw [e0, List.drop_zero, Nat.sub_zero]
  rw [HT.sIx_nat]
  exact List.take_eq_take_min.symm
theorem p_pen : ∀ ds h Q X, S_pen ds h Q X → w_pen (endsD Q X) (startD 1 ds) h := by
  rintro ds h Q X ⟨js, rfl, q⟩
  show w_pen (endsD Q X) [some (.lk (js.map D.int))] h
  simp only [w_pen, u_asg, u_gN, u_ret, u_retN, u_skip, u_expr, u_ifs, u_c, u_op, u_neg, u_test, u_and, u_or, u_not, u_if, u_nil, u_cons, u_tup, u_lst, u_callP, u_call, u_b, u_chain, u_andV, u_addI, u_subI, u_mulI, u_divI, u_modI, u_powI, u_cmpI, u_eqI, u_eqS, u_eqB, u_abs, u_intI, u_intB, u_newT, u_newF, u_isN, u_notN, wVar, List.set_cons_zero, List.set_cons_succ, List.getElem?_cons_zero, List.getElem?_cons_succ, List.length_cons, List.length_nil, wSl, woNone, woSome, dSl, dListOf]
  refine ⟨_, _, rfl, rfl, (by decide : 3 ≤ sizeLine), fun p hp => fin_of (q p _ hp ⟨js.take 63, 0, 0, ?_, by simp; omega, by omega, by omega, by omega⟩)⟩
  rw [show (63 : Int) = ((63 : Nat) : Int) by rfl, cut_to, List.map_take]
def w_draw : WS := (wSeq (wIfS (wTest (wOp (dCmpI fun i j => decide (j < i)) (wOp dIx (wVar 0) (wC (.int 2))) (wC (.int 0)))) (wSeq (wAsg (wOp dMod (wOp dIx (wVar 0) (wC (.int 2))) (wVar 1)) (gN 2))
  (wSeq (wAsg (wOp dDiv (wOp dIx (wVar 0) (wC (.int 2))) (wVar 1)) (gSubL (wVar 0) (wC (.int 2))))
  (wRet (wVar 2)))) wSkip)
  (wSeq (wAsg (wOp dIx (wVar 0) (wC (.int 1))) (gN 3))
  (wSeq (wAsg (wOp (dAdd false) (wVar 3) (wC (.int 1))) (gSubL (wVar 0) (wC (.int 1))))
  (wSeq (wAsg (wOp (dAdd false) (wOp (dMul false) (wC (.int 70891)) (wVar 3)) (wC (.int 37))) (gN 4))
  (wSeq (wIfS (wTest (wOp (dEq fun b => !b) (wOp dIx (wVar 0) (wC (.int 0))) (wLst false wNil))) (wAsg (wOp dIx (wOp dIx (wVar 0) (wC (.int 0))) (wOp dMod (wVar 3) (wB dLen (wCons (wOp dIx (wVar 0) (wC (.int 0))) wNil)))) (gN 4)) wSkip)
  (wSeq (wIfS (wAnd (wTest (wOp (dCmpI fun i j => decide (i < j)) (wVar 3) (wB dLen (wCons (wOp dIx (wVar 0) (wC (.int 0))) wNil)))) (wTest (wOp (dCmpI fun i j => decide (j ≤ i)) (wB dAbs (wCons (wVar 4) wNil)) (wOp dPow (wC (.int 10)) (wC (.int 18)))))) (wSeq (wAsg (wOp (dAdd false) (wOp (dMul false) (wC (.int 2)) (wB dAbs (wCons (wVar 4) wNil))) (wB dInt (wCons (wOp (dCmpI fun i j => decide (i < j)) (wVar 4) (wC (.int 0))) wNil))) (gN 5))
  (wSeq (wAsg (wOp dDiv (wVar 5) (wVar 1)) (gSubL (wVar 0) (wC (.int 2))))
  (wRet (wOp dMod (wVar 5) (wVar 1))))) wSkip)
  (wSeq (wAsg (wOp dMod (wOp dPow (wOp (dAdd false) (wOp (dAdd false) (wOp (dAdd false) (wOp dMod (wVar 4) (wC (.int 2147483563))) (wOp (dMul false) (wOp (dMul false) (wC (.int 50147)) (wVar 3)) (wVar 3))) (wOp (dMul false) (wC (.int 30011)) (wVar 3))) (wC (.int 67))) (wC (.int 3))) (wC (.int 2147483647))) (gN 6))
  (wSeq (wAsg (wOp dMod (wOp dPow (wOp (dAdd false) (wOp (dAdd false) (wOp (dMul false) (wVar 6) (wOp (dAdd false) (wOp (dMul false) (wC (.int 2)) (wVar 3)) (wC (.int 40009)))) (wOp (dMul false) (wC (.int 17)) (wVar 3))) (wC (.int 11))) (wC (.int 5))) (wC (.int 2147483629))) (gN 6))
  (wRet (wOp dMod (wOp dDiv (wVar 6) (wC (.int 64))) (wVar 1)))))))))))
theorem atI_nat {α : Type} {xs : List α} {j : Nat} (h : j < xs.length) : atI xs (j : Int) = xs[j]? := by
  have h1 : ixN xs.length (j : Int) = some j := by
    unfold ixN
    simp; omega
  unfold atI
  rw [h1]; rfl
theorem mul_l {i j : Int} (h : -(2 ^ 64) < i ∧ i < 2 ^ 64) : MulOk i j := .inl h
theorem sq_le {a b : Int} (h0 : 0 ≤ a) (h : a ≤ b) : a * a ≤ b * b := Int.mul_le_mul h h h0 (by omega)
theorem p_draw : ∀ ds h Q X, S_draw ds h Q X → w_draw (endsD Q X) (startD 7 ds) h := by
  rintro ds h Q X ⟨n, p, m, rfl, ⟨_, hp, cs, at_, gr, rfl, l1, l2, l3, l4⟩, hn, dm, q⟩
  show w_draw (endsD Q X) [some (.ref p), some (.int m), none, none, none, none, none] h
  have hm : 0 < m := dm.1
  unfold w_draw
  rw [u_seq]
  simp only [u_asg, u_gN, u_ret, u_retN, u_skip, u_expr, u_ifs, u_c, u_op, u_neg, u_test, u_and, u_or, u_not, u_if, u_nil, u_cons, u_tup, u_lst, u_callP, u_call, u_b, u_chain, u_andV, u_addI, u_subI, u_mulI, u_divI, u_modI, u_powI, u_cmpI, u_eqI, u_eqS, u_eqB, u_abs, u_intI, u_intB, u_newT, u_newF, u_isN, u_notN, wVar, List.set_cons_zero, List.set_cons_succ, List.getElem?_cons_zero, List.getElem?_cons_succ, List.length_cons, List.length_nil, u_ixRd hp at2]
  by_cases c : 0 < gr
  · simp only [decide_eq_true c, if_true, u_seq, u_asg, u_gN, u_ret, u_retN, u_skip, u_expr, u_ifs, u_c, u_op, u_neg, u_test, u_and, u_or, u_not, u_if, u_nil, u_cons, u_tup, u_lst, u_callP, u_call, u_b, u_chain, u_andV, u_addI, u_subI, u_mulI, u_divI, u_modI, u_powI, u_cmpI, u_eqI, u_eqS, u_eqB, u_abs, u_intI, u_intB, u_newT, u_newF, u_isN, u_notN, wVar, List.set_cons_zero, List.set_cons_succ, List.getElem?_cons_zero, List.getElem?_cons_succ, List.length_cons, List.length_nil, u_ixRd hp at2, gSubL]
    refine ⟨hm, dm, p, _, 2, 2, rfl, rfl, hp, rfl, fin_of (q _ _ (Int.emod_nonneg _ (by omega)) (Int.emod_lt_of_pos _ hm) ⟨cs, at_, gr / m, rfl, l1, l2, by omega, Int.ediv_nonneg l4 (by omega)⟩)⟩
  simp only [decide_eq_false c, Bool.false_eq_true, if_false]
  rw [u_seq]
  simp only [u_asg, u_gN, u_ret, u_retN, u_skip, u_expr, u_ifs, u_c, u_op, u_neg, u_test, u_and, u_or, u_not, u_if, u_nil, u_cons, u_tup, u_lst, u_callP, u_call, u_b, u_chain, u_andV, u_addI, u_subI, u_mulI, u_divI, u_modI, u_powI, u_cmpI, u_eqI, u_eqS, u_eqB, u_abs, u_intI, u_intB, u_newT, u_newF, u_isN, u_notN, wVar, List.set_cons_zero, List.set_cons_succ, List.getElem?_cons_zero, List.getElem?_cons_succ, List.length_cons, List.length_nil, u_ixRd hp at1]
  rw [u_seq]
  simp only [u_asg, u_gN, u_ret, u_retN, u_skip, u_expr, u_ifs, u_c, u_op, u_neg, u_test, u_and, u_or, u_not, u_if, u_nil, u_cons, u_tup, u_lst, u_callP, u_call, u_b, u_chain, u_andV, u_addI, u_subI, u_mulI, u_divI, u_modI, u_powI, u_cmpI, u_eqI, u_eqS, u_eqB, u_abs, u_intI, u_intB, u_newT, u_newF, u_isN, u_notN, wVar, List.set_cons_zero, List.set_cons_succ, List.getElem?_cons_zero, List.getElem?_cons_succ, List.length_cons, List.length_nil, gSubL]
  refine ⟨p, _, 1, 1, rfl, rfl, hp, rfl, ?_⟩
  have e1 : ([D.lst (cs.map D.int), D.int at_, D.int gr].set 1 (D.int (at_ + 1))) = [D.lst (cs.map D.int), D.int (at_ + 1), D.int gr] := rfl
  rw [e1]
  have ug : ∀ o, up (up h p (.lst [D.lst (cs.map D.int), D.int (at_ + 1), D.int gr])) p o = up h p o := fun o => up_up
  have gp : (up h p (.lst [D.lst (cs.map D.int), D.int (at_ + 1), D.int gr])) p = some (.lst [D.lst (cs.map D.int), D.int (at_ + 1), D.int gr]) := up_same
  have fin0 : ∀ v, 0 ≤ v → v < m → Q (.int v) (up h p (.lst [D.lst (cs.map D.int), D.int (at_ + 1), D.int gr])) := fun v h1 h2 => q v _ h1 h2 ⟨cs, at_ + 1, gr, rfl, l1, by omega, by omega, l4⟩
  have fin1 : ∀ v g, 0 ≤ v → v < m → 0 ≤ g → Q (.int v) (up h p (.lst [D.lst (cs.map D.int), D.int (at_ + 1), D.int g])) := fun v g h1 h2 h3 => q v _ h1 h2 ⟨cs, at_ + 1, g, rfl, l1, by omega, by omega, h3⟩
  generalize hg : up h p (.lst [D.lst (cs.map D.int), D.int (at_ + 1), D.int gr]) = g at gp ug fin0 ⊢
  rw [u_seq]
  simp only [u_asg, u_gN, u_ret, u_retN, u_skip, u_expr, u_ifs, u_c, u_op, u_neg, u_test, u_and, u_or, u_not, u_if, u_nil, u_cons, u_tup, u_lst, u_callP, u_call, u_b, u_chain, u_andV, u_addI, u_subI, u_mulI, u_divI, u_modI, u_powI, u_cmpI, u_eqI, u_eqS, u_eqB, u_abs, u_intI, u_intB, u_newT, u_newF, u_isN, u_notN, wVar, List.set_cons_zero, List.set_cons_succ, List.getElem?_cons_zero, List.getElem?_cons_succ, List.length_cons, List.length_nil]
  refine ⟨mul_l (by decide), ?_⟩
  -- the cell
  refine seq_go (fun ρ h => g = h ∧ ∃ c : Int, ρ = [some (.ref p), some (.int m), none, some (.int at_), some (.int c), none, none]) (fun K k => ?_) ?_
  · simp only [u_asg, u_gN, u_ret, u_retN, u_skip, u_expr, u_ifs, u_c, u_op, u_neg, u_test, u_and, u_or, u_not, u_if, u_nil, u_cons, u_tup, u_lst, u_callP, u_call, u_b, u_chain, u_andV, u_addI, u_subI, u_mulI, u_divI, u_modI, u_powI, u_cmpI, u_eqI, u_eqS, u_eqB, u_abs, u_intI, u_intB, u_newT, u_newF, u_isN, u_notN, wVar, List.set_cons_zero, List.set_cons_succ, List.getElem?_cons_zero, List.getElem?_cons_succ, List.length_cons, List.length_nil, u_ixRd gp at0]
    refine ⟨Nat.zero_le _, eq_nil ?_⟩
    by_cases z : cs = []
    · rw [decide_eq_true z]
      exact k _ _ ⟨rfl, _, rfl⟩
    rw [decide_eq_false z]
    simp only [Bool.not_false, if_true, u_ixRd gp at0, u_lenL, u_modI, u_ixL]
    have lc : 0 < cs.length := List.length_pos_iff.mpr z
    have lp : (0 : Int) < ((cs.map D.int).length : Nat) := by rw [List.length_map]; omega
    refine ⟨lp, ?_⟩
    have a0 := Int.emod_nonneg at_ (show (((cs.map D.int).length : Nat) : Int) ≠ 0 by omega)
    have a1 := Int.emod_lt_of_pos at_ lp
    obtain ⟨j, ej⟩ := Int.eq_ofNat_of_zero_le a0
    rw [ej] at a1 ⊢
    rw [List.length_map] at a1
    have lj : j < cs.length := by omega
    refine ⟨.int cs[j], ?_, k _ _ ⟨rfl, _, rfl⟩⟩
    rw [atI_nat (by rw [List.length_map]; exact lj), List.getElem?_map, List.getElem?_eq_getElem lj]
    rfl
  rintro _ _ ⟨rfl, c, rfl⟩
  refine seq_go (fun ρ h => g = h ∧ ρ = [some (.ref p), some (.int m), none, some (.int at_), some (.int c), none, none]) (fun K k => ?_) ?_
  · simp only [u_asg, u_gN, u_ret, u_retN, u_skip, u_expr, u_ifs, u_c, u_op, u_neg, u_test, u_and, u_or, u_not, u_if, u_nil, u_cons, u_tup, u_lst, u_callP, u_call, u_b, u_chain, u_andV, u_addI, u_subI, u_mulI, u_divI, u_modI, u_powI, u_cmpI, u_eqI, u_eqS, u_eqB, u_abs, u_intI, u_intB, u_newT, u_newF, u_isN, u_notN, wVar, List.set_cons_zero, List.set_cons_succ, List.getElem?_cons_zero, List.getElem?_cons_succ, List.length_cons, List.length_nil, u_ixRd gp at0, u_lenL]
    have k := k _ _ ⟨rfl, rfl⟩
    by_cases z : at_ < ((cs.map D.int).length : Nat)
    · rw [decide_eq_true z]
      simp only [if_true]
      refine ⟨by refine ⟨by decide, by decide, by decide⟩, ?_⟩
      by_cases y : (10 ^ Int.toNat 18 : Int) ≤ if c < 0 then -c else c
      · rw [if_pos (decide_eq_true y)]
        simp only [u_seq, u_asg, u_gN, u_ret, u_retN, u_skip, u_expr, u_ifs, u_c, u_op, u_neg, u_test, u_and, u_or, u_not, u_if, u_nil, u_cons, u_tup, u_lst, u_callP, u_call, u_b, u_chain, u_andV, u_addI, u_subI, u_mulI, u_divI, u_modI, u_powI, u_cmpI, u_eqI, u_eqS, u_eqB, u_abs, u_intI, u_intB, u_newT, u_newF, u_isN, u_notN, wVar, List.set_cons_zero, List.set_cons_succ, List.getElem?_cons_zero, List.getElem?_cons_succ, List.length_cons, List.length_nil, gSubL]
        have nn : 0 ≤ 2 * (if c < 0 then -c else c) + (if decide (c < 0) = true then 1 else 0) := by split <;> split <;> omega
        refine ⟨mul_l (by decide), dm, p, _, 2, 2, rfl, rfl, gp, rfl, hm, fin_of ?_⟩
        rw [ug]
        exact fin1 _ _ (Int.emod_nonneg _ (by omega)) (Int.emod_lt_of_pos _ hm) (Int.ediv_nonneg nn (by omega))
      · rw [if_neg (by rw [decide_eq_false y]; decide)]
        exact k
    · rw [decide_eq_false z]
      exact k
  rintro _ _ ⟨rfl, rfl⟩
  simp only [u_seq, u_asg, u_gN, u_ret, u_retN, u_skip, u_expr, u_ifs, u_c, u_op, u_neg, u_test, u_and, u_or, u_not, u_if, u_nil, u_cons, u_tup, u_lst, u_callP, u_call, u_b, u_chain, u_andV, u_addI, u_subI, u_mulI, u_divI, u_modI, u_powI, u_cmpI, u_eqI, u_eqS, u_eqB, u_abs, u_intI, u_intB, u_newT, u_newF, u_isN, u_notN, wVar, List.set_cons_zero, List.set_cons_succ, List.getElem?_cons_zero, List.getElem?_cons_succ, List.length_cons, List.length_nil]
  have b1 : 0 ≤ c % 2147483563 := Int.emod_nonneg _ (by decide)
  have b2 : c % 2147483563 < 2147483563 := Int.emod_lt_of_pos _ (by decide)
  have b3 : at_ ≤ 1000000 := by omega
  have b4 : 50147 * at_ * at_ ≤ 50147 * 1000000000000 := by
    rw [Int.mul_assoc]
    have := sq_le l2 b3
    omega
  have b5 : 0 ≤ 50147 * at_ * at_ := Int.mul_nonneg (by omega) l2
  generalize e5 : 50147 * at_ * at_ = t at b4 b5 ⊢
  generalize e6 : (c % 2147483563 + t + 30011 * at_ + 67) = u
  have b6 : 0 ≤ u ∧ u < 2 ^ 63 := by omega
  generalize e7 : u ^ Int.toNat 3 % 2147483647 = v
  have b7 : 0 ≤ v ∧ v < 2147483647 := by rw [← e7]; exact ⟨Int.emod_nonneg _ (by decide), Int.emod_lt_of_pos _ (by decide)⟩
  have b8 : v * (2 * at_ + 40009) ≤ 2147483647 * (2 * 1000000 + 40009) := Int.mul_le_mul (by omega) (by omega) (by omega) (by omega)
  have b9 : 0 ≤ v * (2 * at_ + 40009) := Int.mul_nonneg b7.1 (by omega)
  refine ⟨by decide, mul_l (by decide), mul_l (by omega), mul_l (by decide), ⟨by decide, by decide, by omega⟩, by decide, mul_l (by decide), mul_l (by omega), mul_l (by decide), ⟨by decide, by decide, by omega⟩, by decide, ⟨by decide, .inl (by decide)⟩, hm, fin_of (fin0 _ (Int.emod_nonneg _ (by omega)) (Int.emod_lt_of_pos _ hm))⟩
end DL
namespace DL
open PySem PySem.Spec L2 C8
section
variable {ρ : EnvD} {h : AH} {Q : KD} {X : KX} {D0 : EndsD} {xs : List D} {p q : Addr} {o u : AO}
theorem up_get (hp : h p = none) (hq : h q = some o) : (up h p u) q = some o := by
  rw [up_ne (by rintro rfl; rw [hp] at hq; cases hq)]; exact hq
theorem endF (hp : h p = none) (k : Q (.lst xs) h) : endL false p Q (up h p (.lst xs)) := ⟨xs, up_same, by rw [rm_up, rm_none hp]; exact k⟩
theorem endT (k : Q (.ref p) (up h p (.lst xs))) : endL true p Q (up h p (.lst xs)) := ⟨xs, up_same, k⟩
theorem u_lc {m : Bool} {wi : WI} {g : WG} {tt : WT} {te : WE} {vs : List Nat} : wLc m wi g tt te vs ρ h Q X = wi ρ h (fun xs st h1 => ∀ p, h1 p = none → compD st g tt te vs ρ p xs (up h1 p (.lst [])) (endL m p Q)) X := rfl
theorem u_for {wi : WI} {g : WG} {tb : WS} : wFor wi g tb D0 ρ h = wi ρ h (fun xs st h1 => loopD st g tb D0 xs ρ h1) D0.ex := rfl
theorem u_r1 {l : WA} {R : List D → (AH → Prop) → AH → Prop} : iRng1 l ρ h R X = l ρ h (fun ds h1 => match ds with
  | [.int j] => -(2 ^ 62) ≤ j ∧ j < 2 ^ 62 ∧ R (intsD 0 j.toNat) (fun _ => True) h1
  | _ => False) X := rfl
theorem u_r2 {l : WA} {R : List D → (AH → Prop) → AH → Prop} : iRng2 l ρ h R X = l ρ h (fun ds h1 => match ds with
  | [.int i, .int j] => (-(2 ^ 62) ≤ i ∧ i < 2 ^ 62 ∧ -(2 ^ 62) ≤ j ∧ j < 2 ^ 62) ∧ R (intsD i (j - i).toNat) (fun _ => True) h1
  | _ => False) X := rfl
theorem u_r3 {l : WA} {R : List D → (AH → Prop) → AH → Prop} : iRng3 l ρ h R X = l ρ h (fun ds h1 => match ds with
  | [.int i, .int j, .int c] => ∃ n, RgC i j c n ∧ R (stepD i c n) (fun _ => True) h1
  | _ => False) X := rfl
theorem u_seqi {a : WE} {R : List D → (AH → Prop) → AH → Prop} : iSeq a ρ h R X = a ρ h (fun x h1 => match x with
  | .lst xs => R xs (fun _ => True) h1
  | .ref a => ∃ xs, h1 a = some (.lst xs) ∧ R xs (fun h => h a = some (.lst xs)) h1
  | _ => False) X := rfl
theorem u_tupi {a : WE} {R : List D → (AH → Prop) → AH → Prop} : iTupD a ρ h R X = a ρ h (fun x h1 => match x with
  | .tup xs => R xs (fun _ => True) h1
  | .tpl xs => R xs (fun _ => True) h1
  | _ => False) X := rfl
theorem u_num {l : WA} {R : List D → (AH → Prop) → AH → Prop} : iNum l ρ h R X = l ρ h (fun ds h1 => match ds with
  | [.tup xs] => R (numD xs) (fun _ => True) h1
  | _ => False) X := rfl
theorem u_notV {a : WE} : wNotV a ρ h Q X = a ρ h (fun x h1 => match x with
  | .bl b => Q (.bl (!b)) h1
  | _ => False) X := rfl
theorem u_yes {Q : Bool → AH → Prop} : wYes ρ h Q X = Q true h := rfl
theorem u_tupOf {ds : List D} : dTupOf ds h Q = ∃ x xs, ds = [x] ∧ seqOf h x = some xs ∧ Q (.tup xs) h := rfl
theorem u_w0 : wipeD ρ [] = ρ := rfl
theorem u_w1 {v : Nat} {vs : List Nat} : wipeD ρ (v :: vs) = (wipeD ρ vs).set v none := rfl
end
/-- tuple, list of ints -/
abbrev tpI (es : List Int) : D := .tup (es.map D.int)
abbrev lsI (es : List Int) : D := .lst (es.map D.int)
theorem at_last {es : List Int} (h : 0 < es.length) : atI (es.map D.int) (-1) = some (.int (es.getD (es.length - 1) 0)) := by
  have e : ixN (es.map D.int).length (-1) = some (es.length - 1) := by
    unfold ixN
    rw [List.length_map, if_neg (by omega), if_pos (by omega)]
    congr 1; omega
  unfold atI
  rw [e]
  show (es.map D.int)[es.length - 1]? = _
  have l : es.length - 1 < es.length := by omega
  rw [List.getElem?_map, List.getElem?_eq_getElem l, List.getD_eq_getElem?_getD, List.getElem?_eq_getElem l]
  rfl
theorem at_nth {es : List Int} {k : Nat} (h : k < es.length) : atI (es.map D.int) (k : Int) = some (.int (es.getD k 0)) := by
  rw [atI_nat (by rw [List.length_map]; exact h), List.getElem?_map, List.getElem?_eq_getElem h, List.getD_eq_getElem?_getD, List.getElem?_eq_getElem h]
  rfl
theorem mem_intsD {lo : Int} {n : Nat} {x : D} (h : x ∈ intsD lo n) : ∃ k : Nat, k < n ∧ x = .int (lo + k) := by
  unfold intsD at h
  obtain ⟨k, hk, rfl⟩ := List.mem_map.mp h
  exact ⟨k, List.mem_range.mp hk, rfl⟩
theorem mem_stepD {lo c : Int} {n : Nat} {x : D} (h : x ∈ stepD lo c n) : ∃ k : Nat, k < n ∧ x = .int (lo + k * c) := by
  unfold stepD at h
  obtain ⟨k, hk, rfl⟩ := List.mem_map.mp h
  exact ⟨k, List.mem_range.mp hk, rfl⟩
/-! ### how long a repr is -/
theorem txt_len (ts : List Str) : ∀ (k : Nat) (acc : Str), (textFrom k acc ts).length ≤ acc.length + (ts.map fun t => t.length + 2).sum := by
  induction ts with
  | nil => intro k acc; exact Nat.le_add_right _ _
  | cons t ts ih =>
    intro k acc
    have h := ih (k + 1) (acc ++ (if k > 0 then ", " else "" : String) ++ t)
    rw [Str.length_append, Str.length_append] at h
    have l2 : ((if k > 0 then ", " else "" : String) : Str).length ≤ 2 := by split <;> decide
    show (textFrom (k + 1) _ ts).length ≤ _
    rw [List.map_cons, List.sum_cons]
    omega
theorem lst_len (ts : List Str) : (listText ts).length ≤ 2 + (ts.map fun t => t.length + 2).sum := by
  have h := txt_len ts 0 "["
  unfold listText
  rw [Str.length_append]
  have l1 : (("[" : String) : Str).length = 1 := by decide
  have l2 : (("]" : String) : Str).length = 1 := by decide
  omega
theorem tup_len (ts : List Str) : (tupleText ts).length ≤ 3 + (ts.map fun t => t.length + 2).sum := by
  unfold tupleText
  rw [Str.length_append, Str.length_append]
  have l1 : (("(" : String) : Str).length = 1 := by decide
  have l2 : ((if ts.length == 1 then ",)" else ")" : String) : Str).length ≤ 2 := by split <;> decide
  by_cases e : ts = []
  · subst e
    have l3 : (Str.join ", " ([] : List Str)).length = 0 := by decide
    simp at l2 ⊢
    omega
  · have l3 := join_length_add ts e
    unfold piled at l3
    omega
theorem lg_lt {n k : Nat} (h : n < 2 ^ k) (hk : 0 < k) : n.log2 < k := by
  by_cases e : n = 0
  · subst e; exact hk
  · exact (Nat.log2_lt e).mpr h
theorem int_len {i : Int} {k : Nat} (hk : 0 < k) (h : i.natAbs < 2 ^ k) : (PyData.int i).shown.length ≤ k + 1 := by
  rw [PyData.shown]
  have e := int_text_length_le (a := i) hk (lg_lt h hk)
  show (Str.ofString (toString i)).length ≤ k + 1
  rw [ofString_length]; exact e
theorem all_len {ds : List PyData} {c : Nat} (h : ∀ d ∈ ds, d.shown.length ≤ c) : ((PyData.shownAll ds).map fun t => t.length + 2).sum ≤ ds.length * (c + 2) := by
  induction ds with
  | nil => rw [PyData.shownAll]; exact Nat.zero_le _
  | cons d ds ih =>
    rw [PyData.shownAll, List.map_cons, List.sum_cons, List.length_cons, Nat.add_mul]
    have h1 := h d (List.mem_cons_self ..)
    have h2 := ih fun e he => h e (List.mem_cons_of_mem _ he)
    omega
theorem lst_sub {h g : AH} {x : D} {xs : List D} (s : Sub h g) (e : lstOf h x = some xs) : lstOf g x = some xs := by
  cases x <;> first | exact e | skip
  rename_i a
  unfold lstOf at *
  dsimp only at *
  cases q : h a with
  | none => rw [q] at e; cases e
  | some o => rw [q] at e; rw [s _ _ q]; exact e
theorem seqi_go {ρ : EnvD} {h : AH} {X : KX} {c : Nat} {x : D} {xs : List D} {R : List D → (AH → Prop) → AH → Prop} (e : ρ[c]? = some (some x)) (hx : lstOf h x = some xs) (k : ∀ st : AH → Prop, (∀ g, Sub h g → st g) → R xs st h) : iSeq (wVar c) ρ h R X := by
  rw [u_seqi, u_var e]
  cases x with
  | lst ys =>
    obtain rfl : ys = xs := Option.some.inj hx
    exact k _ fun _ _ => trivial
  | ref a =>
    dsimp only
    unfold lstOf at hx
    dsimp only at hx
    cases q : h a with
    | none => rw [q] at hx; cases hx
    | some o =>
      rw [q] at hx
      cases o with
      | lst ys =>
        obtain rfl : ys = xs := Option.some.inj hx
        exact ⟨_, rfl, k _ fun g s => s _ _ q⟩
      | _ => cases hx
  | _ => cases hx
theorem len_of {h : AH} {x : D} {xs : List D} {Q : KD} (e : lstOf h x = some xs) (q : Q (.int (xs.length : Nat)) h) : dLen [x] h Q := by
  cases x with
  | lst ys =>
    obtain rfl : ys = xs := Option.some.inj e
    rw [u_lenL]; exact q
  | ref a =>
    unfold lstOf at e
    dsimp only at e
    cases z : h a with
    | none => rw [z] at e; cases e
    | some o =>
      rw [z] at e
      cases o with
      | lst ys =>
        obtain rfl : ys = xs := Option.some.inj e
        rw [u_lenR z]; exact q
      | _ => cases e
  | _ => cases e
theorem seq_of {h : AH} {x : D} {xs : List D} (e : lstOf h x = some xs) : seqOf h x = some xs := by
  cases x <;> first | exact e | (cases e; done)
end DL
namespace DL
open PySem PySem.Spec L2 C8
/-! ### repr of rows of small things -/
structure Rp (x : D) (k n : Nat) : Prop where
  da : dat x = true
  sh : (pd x).showable = true
  de : (pd x).depth ≤ k
  le : (pd x).shown.length ≤ n
theorem rp_go {x : D} {k n : Nat} {h : AH} {Q : KD} (r : Rp x k n) (hk : k ≤ 60) (hn : n ≤ 16000000) (c : cur h x = x) (q : Q (.str (pd x).shown) h) : dRepr [x] h Q :=
  ⟨x, rfl, by rw [c]; exact r.da, by rw [c]; exact r.sh, by rw [c]; exact Nat.le_trans r.de hk, by rw [c]; exact Nat.le_trans r.le (Nat.le_trans hn (by decide)), by rw [c]; exact q⟩
theorem rp_non : Rp .non 0 4 := ⟨rfl, rfl, by rw [pd, PyData.depth]; exact Nat.le_refl _, by rw [pd, PyData.shown]; decide⟩
theorem rp_bl (b : Bool) : Rp (.bl b) 0 5 := ⟨rfl, by rw [pd, PyData.showable], by rw [pd, PyData.depth]; exact Nat.le_refl _, by rw [pd, PyData.shown]; cases b <;> decide⟩
theorem rp_int {i : Int} {j : Nat} (hj : 0 < j) (hj2 : j ≤ 1900) (h : i.natAbs < 2 ^ j) : Rp (.int i) 0 (j + 1) :=
  ⟨rfl, by rw [pd, PyData.showable]; exact decide_eq_true (Nat.lt_of_lt_of_le (lg_lt h hj) (Nat.le_trans hj2 (by decide))), by rw [pd, PyData.depth]; exact Nat.le_refl _, by rw [pd]; exact int_len hj h⟩
theorem Rp.up {x : D} {k n l m : Nat} (r : Rp x k n) (h1 : k ≤ l) (h2 : n ≤ m) : Rp x l m := ⟨r.da, r.sh, Nat.le_trans r.de h1, Nat.le_trans r.le h2⟩
theorem rps {k n : Nat} : ∀ {xs : List D}, (∀ x ∈ xs, Rp x k n) → dats xs = true ∧ PyData.showableAll (pds xs) = true ∧ PyData.depthAll (pds xs) ≤ k ∧ ∀ d ∈ pds xs, d.shown.length ≤ n
  | [], _ => ⟨rfl, by rw [pds, PyData.showableAll], by rw [pds, PyData.depthAll]; exact Nat.zero_le _, fun d hd => by rw [pds] at hd; cases hd⟩
  | x :: xs, h => by
    obtain ⟨h1, h2, h3, h4⟩ := rps fun y hy => h y (List.mem_cons_of_mem _ hy)
    have r := h x (List.mem_cons_self ..)
    refine ⟨by rw [dats, r.da, h1]; rfl, by rw [pds, PyData.showableAll, r.sh, h2]; rfl, by rw [pds, PyData.depthAll]; exact Nat.max_le.mpr ⟨r.de, h3⟩, fun d hd => ?_⟩
    rw [pds] at hd
    rcases List.mem_cons.mp hd with rfl | hd
    · exact r.le
    · exact h4 d hd
theorem pds_len (xs : List D) : (pds xs).length = xs.length := by rw [pds_map, List.length_map]
theorem rp_lst {k n l : Nat} {xs : List D} (h : ∀ x ∈ xs, Rp x k n) (hl : xs.length ≤ l) : Rp (.lst xs) (k + 1) (2 + l * (n + 2)) := by
  obtain ⟨h1, h2, h3, h4⟩ := rps h
  refine ⟨h1, by rw [pd, PyData.showable]; exact h2, by rw [pd, PyData.depth]; omega, ?_⟩
  rw [pd, PyData.shown]
  refine Nat.le_trans (lst_len _) ?_
  have := all_len h4
  rw [pds_len] at this
  have := Nat.mul_le_mul_right (n + 2) hl
  omega
theorem rp_tup {k n l : Nat} {xs : List D} (h : ∀ x ∈ xs, Rp x k n) (hl : xs.length ≤ l) : Rp (.tup xs) (k + 1) (3 + l * (n + 2)) := by
  obtain ⟨h1, h2, h3, h4⟩ := rps h
  refine ⟨h1, by rw [pd, PyData.showable]; exact h2, by rw [pd, PyData.depth]; omega, ?_⟩
  rw [pd, PyData.shown]
  refine Nat.le_trans (tup_len _) ?_
  have := all_len h4
  rw [pds_len] at this
  have := Nat.mul_le_mul_right (n + 2) hl
  omega
end DL
namespace DL
open PySem PySem.Spec L2 C8
/-! ### the heap while a pen is drawn from: what stood in h0 stands, the pen apart -/
structure Inv0 (h0 : AH) (p : Addr) (m : Int) (h : AH) : Prop where
  pen : PenAt m h p
  old : ∀ b o, h0 b = some o → b ≠ p → h b = some o
  isp : ∃ o, h0 p = some o
section
variable {h0 h : AH} {p q : Addr} {m n : Int} {o : AO} {Q : KD} {X : KX}
theorem Inv0.start (e : PenAt m h p) : Inv0 h p m h := ⟨e, fun _ _ e _ => e, let ⟨o, e, _⟩ := e; ⟨o, e⟩⟩
theorem Inv0.mono (I : Inv0 h0 p m h) (l : m ≤ n) : Inv0 h0 p n h := ⟨let ⟨o, e, r⟩ := I.pen; ⟨o, e, r.mono l⟩, I.old, I.isp⟩
theorem Inv0.draw (I : Inv0 h0 p m h) (r : PenO n o) : Inv0 h0 p n (up h p o) := ⟨⟨o, up_same, r⟩, fun b u e c => by rw [up_ne c]; exact I.old b u e c, I.isp⟩
theorem Inv0.fresh (I : Inv0 h0 p m h) (e : h q = none) : h0 q = none ∧ q ≠ p := by
  obtain ⟨u, eu, _⟩ := I.pen
  have c : q ≠ p := by rintro rfl; rw [e] at eu; cases eu
  refine ⟨?_, c⟩
  cases z : h0 q with
  | none => rfl
  | some w => rw [I.old _ _ z c] at e; cases e
theorem Inv0.put (I : Inv0 h0 p m h) (e : h0 q = none) : Inv0 h0 p m (up h q o) := by
  have c : q ≠ p := by rintro rfl; obtain ⟨u, z⟩ := I.isp; rw [e] at z; cases z
  obtain ⟨u, eu, r⟩ := I.pen
  exact ⟨⟨u, by rw [up_ne c.symm]; exact eu, r⟩, fun b w z d => by rw [up_ne (by rintro rfl; rw [e] at z; cases z)]; exact I.old b w z d, I.isp⟩
theorem Inv0.new (I : Inv0 h0 p m h) (e : h q = none) : Inv0 h0 p m (up h q o) := I.put (I.fresh e).1
theorem Inv0.sub (I : Inv0 h0 p m h) : ∃ o, PenO m o ∧ Sub (up h0 p o) h := by
  obtain ⟨u, eu, r⟩ := I.pen
  refine ⟨u, r, fun b w z => ?_⟩
  by_cases c : b = p
  · subst c; rw [up_same] at z; cases z; exact eu
  · rw [up_ne c] at z; exact I.old _ _ z c
theorem draw_go {c : Int} (I : Inv0 h0 p m h) (lm : m < 1000000) (dc : DivOk c) (k : ∀ v o, 0 ≤ v → v < c → Inv0 h0 p (m + 1) (up h p o) → (∀ q, q ≠ p → up h p o q = h q) → Q (.int v) (up h p o)) : S_draw [.ref p, .int c] h Q X :=
  ⟨m, p, c, rfl, I.pen, lm, dc, fun v o h1 h2 r => k v o h1 h2 (I.draw r) fun q hq => up_ne hq⟩
end
theorem div_ok {c : Int} (h : 0 < c) (h2 : c < 1073741824) : DivOk c := ⟨h, .inl h2⟩
/-! ### dicts of ints -/
def toK (es : List (Int × Int)) : List (Key × D) := es.map fun e => ((Sum.inl e.1 : Key), D.int e.2)
theorem val_ints (es : List (Int × Int)) (a : Int) : ∃ z, (valD (toK es) (Sum.inl a)).getD (.int 0) = .int z ∧ (z = 0 ∨ ∃ e ∈ es, e.2 = z) := by
  induction es with
  | nil => exact ⟨0, rfl, .inl rfl⟩
  | cons e es ih =>
    obtain ⟨z, h1, h2⟩ := ih
    by_cases c : (Sum.inl e.1 : Key) = Sum.inl a
    · refine ⟨e.2, ?_, .inr ⟨e, List.mem_cons_self .., rfl⟩⟩
      show ((List.find? _ ((Sum.inl e.1, D.int e.2) :: toK es)).map _).getD _ = _
      rw [List.find?_cons_of_pos (by simpa using c)]; rfl
    · refine ⟨z, ?_, ?_⟩
      · show ((List.find? _ ((Sum.inl e.1, D.int e.2) :: toK es)).map _).getD _ = _
        rw [List.find?_cons_of_neg (by simpa using c)]; exact h1
      · rcases h2 with h2 | ⟨f, hf, h2⟩
        · exact .inl h2
        · exact .inr ⟨f, List.mem_cons_of_mem _ hf, h2⟩
theorem put_ints (es : List (Int × Int)) (a w : Int) : ∃ fs, putD (toK es) (Sum.inl a) (.int w) = toK fs ∧ fs.length ≤ es.length + 1 ∧ ∀ f ∈ fs, f ∈ es ∨ (f = (a, w)) := by
  unfold putD
  split
  · refine ⟨es.map fun e => if e.1 = a then (e.1, w) else e, ?_, by simp, ?_⟩
    · unfold toK
      rw [List.map_map, List.map_map]
      apply List.map_congr_left
      intro e _
      show (if (Sum.inl e.1 : Key) = Sum.inl a then ((Sum.inl e.1 : Key), D.int w) else (Sum.inl e.1, D.int e.2)) = _
      by_cases c : e.1 = a
      · rw [if_pos (by rw [c])]
        show _ = ((Sum.inl (if e.1 = a then (e.1, w) else e).1 : Key), D.int (if e.1 = a then (e.1, w) else e).2)
        rw [if_pos c]
      · rw [if_neg (by intro z; exact c (Sum.inl.inj z))]
        show _ = ((Sum.inl (if e.1 = a then (e.1, w) else e).1 : Key), D.int (if e.1 = a then (e.1, w) else e).2)
        rw [if_neg c]
    · intro f hf
      obtain ⟨e, he, rfl⟩ := List.mem_map.mp hf
      by_cases c : e.1 = a
      · right; simp [c]
      · left; simpa [c] using he
  · refine ⟨es ++ [(a, w)], by simp [toK], by simp, fun f hf => ?_⟩
    rcases List.mem_append.mp hf with h | h
    · exact .inl h
    · exact .inr (by simpa using h)
theorem dk_ref {h : AH} {a : Addr} {kvs : List (Key × D)} (e : h a = some (.dK kvs)) : dkOf h (.ref a) = some kvs := by
  simp [dkOf, e]
theorem lst_ref {h : AH} {a : Addr} {xs : List D} (e : h a = some (.lst xs)) : lstOf h (.ref a) = some xs := by
  simp [lstOf, e]
theorem seq_ref {h : AH} {a : Addr} {xs : List D} (e : h a = some (.lst xs)) : seqOf h (.ref a) = some xs := by
  simp [seqOf, lstOf, e]
/-- one of three -/
theorem at_three {x y z : Int} {v : Int} {h : AH} {Q : KD} (h0 : 0 ≤ v) (h3 : v < 3) (q : ∀ u, u = x ∨ u = y ∨ u = z → Q (.int u) h) : dIx (.lst [.int x, .int y, .int z]) (.int v) h Q := by
  have : v = 0 ∨ v = 1 ∨ v = 2 := by omega
  rcases this with rfl | rfl | rfl
  · exact ⟨_, _, rfl, at0, q _ (.inl rfl)⟩
  · exact ⟨_, _, rfl, at1, q _ (.inr (.inl rfl))⟩
  · exact ⟨_, _, rfl, at2, q _ (.inr (.inr rfl))⟩
/-- one of a list of ints -/
theorem at_some {es : List Int} {v : Int} {h : AH} {Q : KD} (h0 : 0 ≤ v) (h1 : v < es.length) (q : ∀ u ∈ es, Q (.int u) h) : dIx (.lst (es.map D.int)) (.int v) h Q := by
  obtain ⟨k, rfl⟩ := Int.eq_ofNat_of_zero_le h0
  have lk : k < es.length := by omega
  refine ⟨_, _, rfl, at_nth lk, q _ ?_⟩
  rw [List.getD_eq_getElem?_getD, List.getElem?_eq_getElem lk]
  exact List.getElem_mem lk
theorem at_ref {es : List Int} {v : Int} {h : AH} {Q : KD} {a : Addr} (e : h a = some (.lst (es.map D.int))) (h0 : 0 ≤ v) (h1 : v < es.length) (q : ∀ u ∈ es, Q (.int u) h) : dIx (.ref a) (.int v) h Q := by
  obtain ⟨k, rfl⟩ := Int.eq_ofNat_of_zero_le h0
  have lk : k < es.length := by omega
  refine ⟨_, _, seq_ref e, at_nth lk, q _ ?_⟩
  rw [List.getD_eq_getElem?_getD, List.getElem?_eq_getElem lk]
  exact List.getElem_mem lk
theorem ix_nat {n : Nat} {v : Int} (h0 : 0 ≤ v) (h1 : v < n) : ixN n v = some v.toNat := by
  unfold ixN; rw [if_pos h0, if_pos h1]
theorem max_two {x y : Int} {h : AH} {Q : KD} (q : Q (.int (max x y)) h) : dMax1 [.lst [.int x, .int y]] h Q := by
  refine ⟨_, [x, y], rfl, rfl, Nat.succ_pos _, fun m hm hy => ?_⟩
  have h1 := hy x (by simp)
  have h2 := hy y (by simp)
  have : m = x ∨ m = y := by simpa using hm
  have e : m = max x y := by omega
  rw [e]; exact q
theorem min_two {x y : Int} {h : AH} {Q : KD} (q : Q (.int (min x y)) h) : dMin1 [.lst [.int x, .int y]] h Q := by
  refine ⟨_, [x, y], rfl, rfl, Nat.succ_pos _, fun m hm hy => ?_⟩
  have h1 := hy x (by simp)
  have h2 := hy y (by simp)
  have : m = x ∨ m = y := by simpa using hm
  have e : m = min x y := by omega
  rw [e]; exact q
end DL
namespace DL
open PySem PySem.Spec L2 C8
section
variable {X : Cx} {E : XK} {e f o : Expr} {wo : WE} {wl : WA}
def rInsD : V → List V → Hp → VK → Prop := fun x vs H Q => ∃ (a : Addr) (us : List V) (j : Int) (z : V), x = .ref a ∧ vs = [.int j, z] ∧ H a = some (.lst us) ∧ us.length < sizeLine ∧ 0 ≤ j ∧ j < 2 ^ 63 ∧ Q .non (upd H a (.lst (us.take j.toNat ++ [z] ++ us.drop j.toNat)))
theorem dInsert_ok {K : PySem.W.Frag} : MeD K "list" rInsD dInsert isL where
  ty := isL_ty
  mo := fun hq ⟨a, xs, i, y, e1, e2, e3, e4, e5, e6, q⟩ => ⟨a, xs, i, y, e1, e2, e3, e4, e5, e6, hq _ _ q⟩
  to := by
    rintro F h H x ys vx vs Q S rx rs ⟨a, xs, i, y, rfl, rfl, e, l, i0, i1, q⟩
    cases rx
    cases rs with
    | cons r rs =>
      cases r
      cases rs with
      | cons r rs =>
        cases rs
        obtain ⟨_, u, hu, us, rfl, ru⟩ := S.ob _ _ e
        refine ⟨a, us, i, _, rfl, rfl, hu, by rw [← ru.length]; exact l, i0, by omega, q F _ _ (.refl F) (S.put e (o := .lst (xs.take i.toNat ++ [y] ++ xs.drop i.toNat)) ⟨_, rfl, ((ru.take i.toNat).append (.cons r .nil)).append (ru.drop i.toNat)⟩) .non⟩
theorem ae_insert {apos cpos : Pos} (ho : AE X E o wo) (ha : AA X E [e, f] wl) (hbase : attributeBase o "insert" X.env (eval o X.env) = eval o X.env := by rfl)
    (hfew : ((backTo cpos (starEach [e, f] X.env)).all (fun x => !x.1) && (backToKw cpos (keywordEach [] X.env)).all (fun x => x.1.isSome) && decide ([e, f].length + ([] : List Keyword).length + (if ([] : List Keyword).isEmpty then 0 else 1) < 30)) = true := by rfl)
    (hline : (apos.endLine == cpos.line) = true := by rfl) (hs : starEach [e, f] X.env = (false, eval e X.env) :: starEach [f] X.env := by rfl) (hplain : (backTo cpos (starEach [f] X.env)).any (·.1) = false := by rfl) :
    AE X E (.Call (.Attribute o "insert" apos) [e, f] [] cpos) (wMethT isL dInsert wo wl) :=
  ae_bm (rv := rInsD) dInsert_ok mt_insert PySem.F.plainAttrs_list PySem.F.slot_list_insert PySem.F.type_list_insert ho ha hbase hfew hline hs hplain
end
/-! ### defaults of keyword-only parameters -/
/-- parameters' values: picked, or the default -/
def pickE (ix : List (Nat ⊕ D)) (ds zs : List D) : List D := ix.map fun i => match i with
  | .inl i => ((ds ++ zs)[i]?).getD .non
  | .inr d => d
/-- one keyword-only parameter m that lacks: its default u stands in the def's dict -/
theorem Bnd.dflt {K : PySem.W.Frag} {fd : FuncData} {ps : List Str} {n : Nat} {ks : List Str} {Dk : Addr} {m : Str} {u : Value} {v : V} {d : D} (ix : List (Nat ⊕ D)) (jx : List (Option Nat))
    (hu : PySem.W.nsIn K Dk m = some (some u)) (rv : RelV v u) (rd : ∀ F, Rep K F d v)
    (hj : ix = jx.map fun j => match j with | some i => .inl i | none => .inr d) (hb : (jx.all fun j => match j with | some i => decide (i < n + ks.length) | none => true) = true)
    (h : ∀ us ws : List Value, us.length = n → ws.length = ks.length → KwChain Dk [(m, u)] (bindArgs fd ⟨us, ks.zip ws⟩) (ps.zip (jx.map fun j => match j with | some i => ((us ++ ws)[i]?).getD .none | none => u))) : Bnd K fd ps n ks (pickE ix) := by
  subst hj
  have hi : ∀ i, some i ∈ jx → i < n + ks.length := fun i h => of_decide_eq_true (List.all_eq_true.mp hb _ h)
  clear hb
  refine ⟨fun s F ds zs vs ys us ws X l1 l2 r1 r2 r3 r4 => ⟨jx.map fun j => match j with | some i => ((vs ++ ys)[i]?).getD .non | none => v, jx.map fun j => match j with | some i => ((us ++ ws)[i]?).getD .none | none => u, ?_, ?_,
    BindsTo.of_looks fun M => KwChain.looks X (fun q hq => by
      obtain rfl : q = (m, u) := by simpa using hq
      exact hu) (h us ws (by rw [← r2.length, ← r1.length]; exact l1) (by rw [← r4.length, ← r3.length]; exact l2))⟩⟩
  · have r := r1.append r3
    have l : (ds ++ zs).length = n + ks.length := by simp [l1, l2]
    clear h
    unfold pickE
    rw [List.map_map]
    induction jx with
    | nil => exact .nil
    | cons j jx ih =>
      refine .cons ?_ (ih fun i hi2 => hi i (List.mem_cons_of_mem _ hi2))
      cases j with
      | none => exact rd F
      | some i =>
        have li : i < (ds ++ zs).length := by rw [l]; exact hi i (List.mem_cons_self ..)
        obtain ⟨w, hw, rw_⟩ := r.get (List.getElem?_eq_getElem li)
        show Rep K F (((ds ++ zs)[i]?).getD .non) (((vs ++ ys)[i]?).getD .non)
        simp only [hw, List.getElem?_eq_getElem li]
        exact rw_
  · have r := r2.append r4
    have l : (vs ++ ys).length = n + ks.length := by simp [← r1.length, ← r3.length, l1, l2]
    clear h
    induction jx with
    | nil => exact .nil
    | cons j jx ih =>
      refine .cons ?_ (ih fun i hi2 => hi i (List.mem_cons_of_mem _ hi2))
      cases j with
      | none => exact rv
      | some i =>
        have li : i < (vs ++ ys).length := by rw [l]; exact hi i (List.mem_cons_self ..)
        obtain ⟨w, hw, rw_⟩ := r.get (List.getElem?_eq_getElem li)
        show RelV (((vs ++ ys)[i]?).getD .non) (((us ++ ws)[i]?).getD .none)
        simp only [hw, List.getElem?_eq_getElem li]
        exact rw_
end DL
namespace DL
open PySem PySem.Spec L2 C8
/-! ### == of data that hold no text -/
structure Fl (x : D) (k : Nat) : Prop where
  da : dat x = true
  cl : (pd x).canLay0 = true
  de : (pd x).depth ≤ k
theorem fl_non : Fl .non 0 := ⟨rfl, by rw [pd, PyData.canLay0], by rw [pd, PyData.depth]; exact Nat.le_refl _⟩
theorem fl_bl (b : Bool) : Fl (.bl b) 0 := ⟨rfl, by rw [pd, PyData.canLay0], by rw [pd, PyData.depth]; exact Nat.le_refl _⟩
theorem fl_int (i : Int) : Fl (.int i) 0 := ⟨rfl, by rw [pd, PyData.canLay0], by rw [pd, PyData.depth]; exact Nat.le_refl _⟩
theorem Fl.up {x : D} {k l : Nat} (r : Fl x k) (h : k ≤ l) : Fl x l := ⟨r.da, r.cl, Nat.le_trans r.de h⟩
theorem fls {k : Nat} : ∀ {xs : List D}, (∀ x ∈ xs, Fl x k) → dats xs = true ∧ PyData.canLayAll0 (pds xs) = true ∧ PyData.depthAll (pds xs) ≤ k
  | [], _ => ⟨rfl, by rw [pds, PyData.canLayAll0], by rw [pds, PyData.depthAll]; exact Nat.zero_le _⟩
  | x :: xs, h => by
    obtain ⟨h1, h2, h3⟩ := fls fun y hy => h y (List.mem_cons_of_mem _ hy)
    have r := h x (List.mem_cons_self ..)
    exact ⟨by rw [dats, r.da, h1]; rfl, by rw [pds, PyData.canLayAll0, r.cl, h2]; rfl, by rw [pds, PyData.depthAll]; exact Nat.max_le.mpr ⟨r.de, h3⟩⟩
theorem fl_lst {k : Nat} {xs : List D} (h : ∀ x ∈ xs, Fl x k) : Fl (.lst xs) (k + 1) := by
  obtain ⟨h1, h2, h3⟩ := fls h
  exact ⟨h1, by rw [pd, PyData.canLay0]; exact h2, by rw [pd, PyData.depth]; omega⟩
theorem fl_tup {k : Nat} {xs : List D} (h : ∀ x ∈ xs, Fl x k) : Fl (.tup xs) (k + 1) := by
  obtain ⟨h1, h2, h3⟩ := fls h
  exact ⟨h1, by rw [pd, PyData.canLay0]; exact h2, by rw [pd, PyData.depth]; omega⟩
theorem Fl.sh {x : D} {k : Nat} (r : Fl x k) (hk : k ≤ 64) : SeqAt.shaped (pd x) = true := by
  unfold SeqAt.shaped
  rw [r.cl, decide_eq_true (Nat.le_trans r.de hk)]; rfl
theorem Fl.eqv {x : D} {k : Nat} (r : Fl x k) : PyData.eqv (pd x) (pd x) = true := SeqAt.eqv_refl _ r.cl
theorem fl_pair (e : Int × Int) : Fl (pairD e) 1 := fl_tup fun x hx => by
  have : x = .int e.1 ∨ x = .int e.2 := by simpa using hx
  rcases this with rfl | rfl <;> exact fl_int _
theorem fl_pairs (es : List (Int × Int)) : ∀ x ∈ es.map pairD, Fl x 1 := fun x hx => by
  obtain ⟨e, _, rfl⟩ := List.mem_map.mp hx
  exact fl_pair e
section
variable {f : Bool → Bool} {xs ys : List D} {h : AH} {Q : KD} {k l : Nat} {a : Addr}
theorem same_tup (r : Fl (.tup xs) k) (hk : k ≤ 64) (q : Q (.bl (f true)) h) : dEq f (.tup xs) (.tup xs) h Q :=
  ⟨r.da, r.da, r.sh hk, r.sh hk, by show Q (.bl (f (PyData.eqv (pd (.tup xs)) (pd (.tup xs))))) h; rw [r.eqv]; exact q⟩
theorem same_lst (r : Fl (.lst xs) k) (hk : k ≤ 64) (q : Q (.bl (f true)) h) : dEq f (.lst xs) (.lst xs) h Q :=
  ⟨r.da, r.da, r.sh hk, r.sh hk, by show Q (.bl (f (PyData.eqv (pd (.lst xs)) (pd (.lst xs))))) h; rw [r.eqv]; exact q⟩
theorem fl_e : Fl (.lst []) 1 := fl_lst (k := 0) fun x hx => by cases hx
/-- a list, and the empty one -/
theorem nil_lst (r : Fl (.lst xs) k) (hk : k ≤ 64) (q : Q (.bl (f xs.isEmpty)) h) : dEq f (.lst xs) (.lst []) h Q := by
  refine ⟨r.da, rfl, r.sh hk, fl_e.sh (by decide), ?_⟩
  show Q (.bl (f (PyData.eqv (pd (.lst xs)) (pd (.lst []))))) h
  rw [pd, pd, PyData.eqv]
  cases xs with
  | nil => rw [pds, PyData.eqvAll]; exact q
  | cons x xs => rw [pds, pds, PyData.eqvAll]; exact q
theorem nil_ref (e : h a = some (.lst xs)) (r : Fl (.lst xs) k) (hk : k ≤ 64) (q : Q (.bl (f xs.isEmpty)) h) : dEq f (.ref a) (.lst []) h Q := by
  have c : cur h (.ref a) = .lst xs := by simp [cur, e]
  refine ⟨by rw [c]; exact r.da, rfl, by rw [c]; exact r.sh hk, fl_e.sh (by decide), ?_⟩
  rw [c]
  show Q (.bl (f (PyData.eqv (pd (.lst xs)) (pd (.lst []))))) h
  rw [pd, pd, PyData.eqv]
  cases xs with
  | nil => rw [pds, PyData.eqvAll]; exact q
  | cons x xs => rw [pds, pds, PyData.eqvAll]; exact q
end
end DL
namespace DL
open PySem PySem.Spec L2 C8
/-! ### attributes -/
def insOf (h : AH) : D → Option (Addr × List (Str × D))
  | .ob C fs => some (C, fs)
  | .ref a => match h a with
    | some (.ins C fs) => some (C, fs)
    | _ => none
  | _ => none
def putFD (f : Str) (d : D) : List (Str × D) → List (Str × D)
  | [] => [(f, d)]
  | (g, x) :: r => if g = f then (g, d) :: r else (g, x) :: putFD f d r
section
variable {K : PySem.W.Frag} {F : Hp} {h : AH} {H : Hp}
theorem RepF.look : ∀ {fs : List (Str × D)} {vs : List (Str × V)} {f : Str} {d : D}, RepF K F fs vs → fs.lookup f = some d → ∃ v, vs.lookup f = some v ∧ Rep K F d v
  | _, _, f, d, .nil, e => by simp at e
  | _, _, f, d, @RepF.cons _ _ k x v xs vs r t, e => by
    cases c : f == k with
    | true =>
      simp only [List.lookup_cons, c] at e ⊢
      cases e
      exact ⟨v, rfl, r⟩
    | false =>
      simp only [List.lookup_cons, c] at e ⊢
      exact RepF.look t e
theorem RepF.put {f : Str} {d : D} {v : V} (r : Rep K F d v) : ∀ {fs : List (Str × D)} {vs : List (Str × V)}, RepF K F fs vs → RepF K F (putFD f d fs) (putF f v vs)
  | _, _, .nil => .cons r .nil
  | _, _, @RepF.cons _ _ k x u xs us q t => by
    show RepF K F (if k = f then (k, d) :: xs else (k, x) :: putFD f d xs) (if k = f then (k, v) :: us else (k, u) :: putF f v us)
    by_cases c : k = f
    · rw [if_pos c, if_pos c]; exact .cons r t
    · rw [if_neg c, if_neg c]; exact .cons q (RepF.put r t)
theorem RepF.length : ∀ {fs : List (Str × D)} {vs : List (Str × V)}, RepF K F fs vs → fs.length = vs.length
  | _, _, .nil => rfl
  | _, _, .cons _ t => by simp [RepF.length t]
theorem Sim.insOf {d : D} {v : V} {C : Addr} {fs : List (Str × D)} (S : Sim K F h H) (r : Rep K F d v) (e : DL.insOf h d = some (C, fs)) : ∃ a dx vs, v = .ref a ∧ H a = some (.ins C dx vs) ∧ RepF K F fs vs := by
  cases r with
  | ref a =>
    cases q : h a with
    | none => simp [DL.insOf, q] at e
    | some o =>
      cases o with
      | ins C' gs =>
        simp only [DL.insOf, q, Option.some.injEq, Prod.mk.injEq] at e
        obtain ⟨rfl, rfl⟩ := e
        obtain ⟨_, u, hu, dx, vs, rfl, rs⟩ := S.ob _ _ q
        exact ⟨a, dx, vs, rfl, hu, rs⟩
      | _ => simp [DL.insOf, q] at e
  | @ob a C' dx xs vs hf rs =>
    simp only [DL.insOf, Option.some.injEq, Prod.mk.injEq] at e
    obtain ⟨rfl, rfl⟩ := e
    exact ⟨a, dx, vs, rfl, S.fz _ _ hf, rs⟩
  | _ => simp [DL.insOf] at e
end
section
variable {X : Cx} {E : XK} {gz : Bool} {k : Nat} {o value e : Expr} {es : List Expr} {wo wv : WE} {wl : WA} {pos pos' p : Pos} {f x : Str} {C : Addr}
/-- e.f of an instance of C -/
def wFld (C : Addr) (f : Str) (wo : WE) : WE := fun ρ h Q X => wo ρ h (fun x h1 => ∃ fs d, insOf h1 x = some (C, fs) ∧ fs.lookup f = some d ∧ Q d h1) X
theorem ae_fld (c : Cls X.K C) (n : NoAttr X.K C f) (ho : AE X E o wo) (hb : attributeBase o f X.env (eval o X.env) = eval o X.env := by rfl) : AE X E (.Attribute o f pos) (wFld C f wo) := by
  refine ⟨PE.imp (pe_fld ho.run hb) fun σ H Q ⟨F, ρ, h, S, R, q⟩ => ?_, fun ρ h Q Q' X X' hq hx q => ho.mo _ _ _ _ _ _ (fun x h1 ⟨fs, d, e1, e2, z⟩ => ⟨fs, d, e1, e2, hq _ _ z⟩) hx q⟩
  refine ⟨F, ρ, h, S, R, ho.mo _ _ _ _ _ _ (fun x h1 z => ?_) (fun _ _ z => z) q⟩
  intro F1 H1 v e1 S1 r
  obtain ⟨fs, d, ei, el, z⟩ := z
  obtain ⟨a, dx, vs, rfl, ha, rs⟩ := S1.insOf r ei
  obtain ⟨w, hw, rw'⟩ := rs.look el
  exact ⟨a, C, dx, vs, w, rfl, ha, c, n, hw, z F1 H1 w e1 S1 rw'⟩
/-- o.f = value -/
def wSetF (C : Addr) (f : Str) (wo wv : WE) : WS := fun D ρ h => wv ρ h (fun z h1 => wo ρ h1 (fun x h2 => ∃ a fs, x = .ref a ∧ h2 a = some (.ins C fs) ∧ fs.length < 1000 ∧ D.nx ρ (up h2 a (.ins C (putFD f z fs)))) D.ex) D.ex
theorem as_fld (c : Cls X.K C) (n : NoAttr X.K C f) (ho : AE X E o wo) (hv : AE X E value wv) (hs : swapsWith value (some (.Attribute o f pos')) pos.line X.env = pure false := by rfl) : AS X E (.Assign [.Attribute o f pos'] value pos) (wSetF C f wo wv) := by
  refine ⟨PS.imp (ps_fld ho.run hv.run hs) fun D σ H ⟨F, ρ, h, S, R, q⟩ => ?_, fun D D' ρ h l q => hv.mo _ _ _ _ _ _ (fun z h1 q => ho.mo _ _ _ _ _ _ (fun x h2 ⟨a, fs, e1, e2, e3, q⟩ => ⟨a, fs, e1, e2, e3, l.nx _ _ q⟩) l.ex q) l.ex q⟩
  refine ⟨F, ρ, h, S, R, hv.mo _ _ _ _ _ _ (fun z h1 q => ?_) (fun _ _ z => z) q⟩
  intro F1 H1 vz e1 S1 rz
  refine ⟨F1, ρ, h1, S1, R.ext e1, ho.mo _ _ _ _ _ _ (fun x h2 q => ?_) (fun _ _ z => LX.ext e1 z) q⟩
  intro F2 H2 vx e2 S2 rx
  obtain ⟨a, fs, rfl, ea, l, q⟩ := q
  cases rx
  obtain ⟨_, u, hu, dx, vs, rfl, rs⟩ := S2.ob _ _ ea
  exact ⟨a, C, dx, vs, rfl, hu, c, n, by rw [← rs.length]; exact l, q F2 _ σ (e1.trans e2) (S2.put ea (o := .ins C (putFD f z fs)) ⟨dx, _, rfl, rs.put (rz.ext e2)⟩) (R.ext (e1.trans e2))⟩
/-- C(e, ..): made, then taken as what does not change -/
def wMake (C : Addr) (S : FSpec) (wl : WA) : WE := fun ρ h Q X => wl ρ h (fun ds h1 => ∀ a, h1 a = none → S (.ref a :: ds) (up h1 a (.ins C [])) (fun v h2 => v = .non ∧ ∃ fs, h2 a = some (.ins C fs) ∧ Q (.ob C fs) (rm h2 a)) X) X
theorem make_to {K : PySem.W.Frag} {S : FSpec} (mo : MoF S) {F : Hp} {h : AH} {H : Hp} {ds : List D} {vs : List V} {Q : VK} {E : XK} (S0 : Sim K F h H) (r : Reps K F ds vs)
    (q : ∀ a, h a = none → S (.ref a :: ds) (up h a (.ins C [])) (fun v h2 => v = .non ∧ ∃ fs, h2 a = some (.ins C fs) ∧ LQ K F Q (.ob C fs) (rm h2 a)) (LX K F E)) :
    ∀ x dx, H x = none → H dx = none → dx ≠ x → spD K S (V.ref x :: vs) (upd (upd H dx (.own x)) x (.ins C dx [])) (fun v H2 => v = .non ∧ Q (.ref x) H2) E := by
  intro x dx hx hd ne
  have S1 := S0.newF hd (.own x)
  have e1 := ext_upd (o := HO.own x) (S0.free hd).1
  have hx1 : (upd H dx (.own x)) x = none := by rw [upd_ne ne.symm]; exact hx
  have S2 := S1.newM hx1 (o := .ins C []) (u := .ins C dx []) ⟨dx, [], rfl, .nil⟩
  refine ⟨_, .ref x :: ds, _, S2, .cons (.ref x) (r.ext e1), mo _ _ _ _ _ _ (fun v h2 z => ?_) (fun _ _ z => LX.ext e1 z) (q x (S0.free hx).2)⟩
  obtain ⟨rfl, fs, ef, z⟩ := z
  intro F3 H3 w e3 S3 rw'
  cases rw'
  refine ⟨rfl, ?_⟩
  obtain ⟨_, u, hu, dy, us, rfl, rs⟩ := S3.ob _ _ ef
  obtain ⟨e4, S4⟩ := S3.frz ef hu rm_same rm_sub
  exact z _ _ _ (e1.trans (e3.trans e4)) S4 (.ob upd_same (rs.ext e4))
/-- what a positional call of a def promises -/
abbrev FnRD (P : Program) (w : World) (K : PySem.W.Frag) (mg : Str → Option Value) (base : Heap) (k : Nat) (f : Addr) (S : FSpec) : Prop := FnR P w K mg base (L2.CX P w) k f fun vs H Q E => spD K S vs H Q E
theorem ae_make {j : Nat} {fI : Addr} {S : FSpec} (c : Cg gz X E k) (M : Mk X.K C fI) (G : FnRD X.prog X.w X.K X.mg X.base j fI S) (mo : MoF S) (hj : j + 1 ≤ k) (hm : X.mg x = some (.ref C)) (ha : AA X E (e :: es) wl)
    (hg : Gl X x := by rfl) (hdb : (x == ("__debug__" : Str)) = false := by decide) (he : starEach (e :: es) X.env = (false, eval e X.env) :: starEach es X.env := by rfl)
    (hpl : (backTo pos (starEach es X.env)).any (·.1) = false := by rfl) : AE X E (.Call (.Name x p) (e :: es) [] pos) (wMake C S wl) := by
  refine ⟨PE.imp (StX.pe_makeR M G (c.room.mono hj) hg hm c.ps ha.run hdb he hpl) fun σ H Q ⟨F, ρ, h, S0, R, q⟩ => ?_, fun ρ h Q Q' X X' hq hx q => ha.mo _ _ _ _ _ _ (fun ds h1 z a hz => mo _ _ _ _ _ _ (fun v h2 ⟨e1, fs, e2, z⟩ => ⟨e1, fs, e2, hq _ _ z⟩) hx (z a hz)) hx q⟩
  refine ⟨F, ρ, h, S0, R, ha.mo _ _ _ _ _ _ (fun ds h1 z => ?_) (fun _ _ z => z) q⟩
  intro F1 H1 vs e1 S1 rs
  exact make_to mo S1 rs fun a ha => mo _ _ _ _ _ _ (fun v h2 ⟨z1, fs, z2, z⟩ => ⟨z1, fs, z2, LQ.ext e1 z⟩) (fun _ _ z => LX.ext e1 z) (z a ha)
end
end DL
namespace DL
open PySem PySem.Spec L2 C8
section
variable {P : Program} {w : World} {K : PySem.W.Frag} {mg : Str → Option Value} {base : Heap} {k : Nat} {f : Addr} {fd : FuncData} {ps : List Str} {S : FSpec}
/-- a def called with all its parameters by place -/
theorem frd_plain (G : FnG false P w K mg base k f fd ps S) (B : Bnd K fd ps ps.length [] (fun ds _ => ds)) : FnRD P w K mg base k f S := by
  intro A outer s H us vs Q E hr e0 r hs
  obtain ⟨F, ds, g, S0, r0, q⟩ := hs
  have X : K.In s.heap := e0.mod.kin.keeps fun b o e => (e0.bs b o e).1
  obtain ⟨xs, ts, rx, rt, bt⟩ := B.to s F ds [] vs [] us [] X (G.len _ _ _ _ q) rfl r0 r .nil .nil
  exact G.run hr (fun z => Bool.noConfusion z) e0 bt rt ⟨F, ds, g, S0, rx, q⟩
theorem FnRD.mono {j : Nat} (G : FnRD P w K mg base j f S) (h : j ≤ k) : FnRD P w K mg base k f S := fun A outer s H us vs Q E hr => G A outer s H us vs Q E (hr.mono h)
/-- what a def with n parameters and a starred one promises by place -/
def starS (n : Nat) (S : FSpec) : FSpec := fun ds h Q X => n ≤ ds.length ∧ (ds.drop n).length ≤ sizeLine ∧ S (ds.take n ++ [.tup (ds.drop n)]) h Q X
theorem starS_mo {n : Nat} (mo : MoF S) : MoF (starS n S) := fun _ _ _ _ _ _ hq hx ⟨a, b, q⟩ => ⟨a, b, mo _ _ _ _ _ _ hq hx q⟩
theorem frd_star {x qual : Str} {st : Stmt} {N : List Str} {pv : Str} {W : WS} (Fn : L2.Fun K x qual st f fd) (sc : FnScope N (ps ++ [pv]) (defScope st)) (len : ∀ ds h Q X, S ds h Q X → ds.length = (ps ++ [pv]).length) (mo : MoF S)
    (hb : ∀ (kV doc pm : Value) (an : Option Addr) (cdv ct : Value) (us rest : List Value), us.length = ps.length → bindArgs (PySem.W.fnOf x qual (defArgs st) (defBody st) (defScope st) .none kV doc pm an cdv ct) ⟨us ++ rest, []⟩ = (newTuple rest >>= fun t => pure (ps.zip us ++ [(pv, t)])))
    (body : ∀ (cdv : Value) (A : Around) (outer : List PySem.Env) (s : Shared) (H : Hp) (E : XK), Cg false (cxOf (L2.CX P w) P w K mg base N qual (defScope st) f cdv A outer s H E) E k →
      ASs (cxOf (L2.CX P w) P w K mg base N qual (defScope st) f cdv A outer s H E) E (defBody st) W)
    (pure : ∀ ds h Q X, S ds h Q X → W (endsD Q X) (startD N.length ds) h) : FnRD P w K mg base (k + 1) f (starS ps.length S) := by
  obtain ⟨oc, od, kV, doc, pm, an, cdv, ct, osl, rfl, lk, hcd⟩ := Fn.ex
  have R := StX.fn_star (P := P) (w := w) (mg := mg) (base := base) (k := k) (sp := fun vs H Q E => spD K S vs H Q E) lk hcd sc StX.cxUp (hb kV doc pm an cdv ct) (fun A outer s H vs Q E hr hs => by
    have c : Cg false (cxOf (L2.CX P w) P w K mg base N qual (defScope st) f cdv A outer s H E) E k :=
      ⟨hr, fun z => Bool.noConfusion z, rfl, sc.nd, passes_call (takes_of rfl rfl rfl rfl) fun _ _ _ _ z => z, passes_of rfl⟩
    obtain ⟨F0, ds, g, S0, r0, q0⟩ := hs
    have B := body cdv A outer s H E c
    refine ⟨_, B.run, F0, _, g, S0, start_env r0, B.mo (endsD (LQ K F0 Q) (LX K F0 E)) _ _ _ ⟨fun ρ h z => ?_, fun d h z => LQ.fin z, fun _ _ z => False.elim z, fun _ _ z => False.elim z, fun _ _ z => z⟩ (pure ds g _ _ q0)⟩
    exact fun F' H' σ' e S' _ => LQ.fin z F' H' .non e S' .non)
  refine R.imp fun vs H Q E hs => ?_
  obtain ⟨F, ds, g, S0, r0, l1, l2, q⟩ := hs
  refine ⟨vs.take ps.length, vs.drop ps.length, (List.take_append_drop _ _).symm, by rw [List.length_take, ← r0.length]; omega, by rw [← (r0.drop ps.length).length]; exact l2, fun p hp => ?_⟩
  have x1 := ext_upd (o := HO.tup (vs.drop ps.length)) (S0.free hp).1
  exact ⟨_, _, g, S0.newF hp _, ((r0.take ps.length).ext x1).append (.cons (.tup (.of upd_same) ((r0.drop ps.length).ext x1)) .nil), mo _ _ _ _ _ _ (fun _ _ z => LQ.ext x1 z) (fun _ _ z => LX.ext x1 z) q⟩
end
section
variable {X : Cx} {E : XK} {gz : Bool} {k j : Nat} {o value e fe : Expr} {es : List Expr} {wo wv we : WE} {wl : WA} {pos pos' p sp_ : Pos} {f x m : Str} {C fI g : Addr} {S : FSpec}
/-- C() -/
theorem ae_make0 (c : Cg gz X E k) (M : Mk X.K C fI) (G : FnRD X.prog X.w X.K X.mg X.base j fI S) (mo : MoF S) (hj : j + 1 ≤ k) (hm : X.mg x = some (.ref C))
    (hg : Gl X x := by rfl) (hdb : (x == ("__debug__" : Str)) = false := by decide) : AE X E (.Call (.Name x p) [] [] pos) (wMake C S wNil) := by
  refine ⟨⟨fun pins s σ H Q I hq => ?_⟩, fun ρ h Q Q' X X' hq hx q a hz => mo _ _ _ _ _ _ (fun v h2 ⟨e1, fs, e2, z⟩ => ⟨e1, fs, e2, hq _ _ z⟩) hx (q a hz)⟩
  obtain ⟨F, ρ, h, S0, R, q⟩ := hq
  refine wpAny_Call_Name_kw (ld_glob I hg hm ?_ hdb)
  exact PySem.W.callWith_K0 (first := []) I.kIn M.kp (StX.run_makeR (us := []) (vs := []) M G (c.room.mono hj) c.ps I .nil (make_to mo S0 .nil q))
/-- C(*e) -/
def wMakeS (C : Addr) (S : FSpec) (we : WE) : WE := fun ρ h Q X => we ρ h (fun y h1 => ∃ ds, seqOf h1 y = some ds ∧ ∀ a, h1 a = none → S (.ref a :: ds) (up h1 a (.ins C [])) (fun v h2 => v = .non ∧ ∃ fs, h2 a = some (.ins C fs) ∧ Q (.ob C fs) (rm h2 a)) X) X
theorem ae_makeS (c : Cg gz X E k) (M : Mk X.K C fI) (G : FnRD X.prog X.w X.K X.mg X.base j fI S) (mo : MoF S) (hj : j + 1 ≤ k) (hm : X.mg x = some (.ref C)) (he : AE X E e we)
    (hg : Gl X x := by rfl) (hdb : (x == ("__debug__" : Str)) = false := by decide) (hst : starEach [.Starred e sp_] X.env = [(true, eval e X.env)] := by rfl) : AE X E (.Call (.Name x p) [.Starred e sp_] [] pos) (wMakeS C S we) := by
  refine ⟨⟨fun pins s σ H Q I hq => ?_⟩, fun ρ h Q Q' X X' hq hx q => he.mo _ _ _ _ _ _ (fun y h1 ⟨ds, e0, z⟩ => ⟨ds, e0, fun a hz => mo _ _ _ _ _ _ (fun v h2 ⟨e1, fs, e2, z⟩ => ⟨e1, fs, e2, hq _ _ z⟩) hx (z a hz)⟩) hx q⟩
  obtain ⟨F, ρ, h, S0, R, q⟩ := hq
  refine wpAny_Call_Name_kw (ld_glob I hg hm ?_ hdb)
  refine PySem.W.callWith_S (h₀ := X.base) I.ok.mod.kin M.kp (thn (he.run.run pins s σ H (fun y H1 => ∃ a xs, y = V.ref a ∧ (SqT X.K H1 a xs ∨ SqL X.K H1 a xs) ∧ ∀ x dx, H1 x = none → H1 dx = none → dx ≠ x → spD X.K S (V.ref x :: xs) (upd (upd H1 dx (.own x)) x (.ins C dx [])) (fun v H2 => v = .non ∧ Q (.ref x) H2) E) I
    ⟨F, ρ, h, S0, R, he.mo _ _ _ _ _ _ (fun y h1 z F1 H1 v e1 S1 r => ?_) (fun _ _ z => z) q⟩) fun v s1 ⟨y, H1, I1, ry, a, xs, ey, hxs, q1⟩ => ?_) hst
  · obtain ⟨ds, e0, z⟩ := z
    obtain ⟨a, vs, rfl, hs, rs⟩ := S1.seqOf r e0
    exact ⟨a, vs, rfl, hs.symm, make_to mo S1 rs fun a ha => mo _ _ _ _ _ _ (fun v h2 ⟨z1, fs, z2, z⟩ => ⟨z1, fs, z2, LQ.ext e1 z⟩) (fun _ _ z => LX.ext e1 z) (z a ha)⟩
  · subst ey
    obtain rfl : v = Value.ref a := ry
    exact StX.star_any I1 hxs fun us s2 I2 rv => ⟨I2.kIn, StX.run_makeR M G (c.room.mono hj) c.ps I2 rv q1⟩
/-- f(e, ..), f an instance of C -/
def wCallO (C : Addr) (S : FSpec) (wo : WE) (wl : WA) : WE := fun ρ h Q X => wo ρ h (fun y h1 => wl ρ h1 (fun ds h2 => (∃ fs, insOf h2 y = some (C, fs)) ∧ S (y :: ds) h2 Q X) X) X
theorem ae_callO (c : Cg gz X E k) (cc : StX.CallO X.K C g) (G : FnRD X.prog X.w X.K X.mg X.base j g S) (mo : MoF S) (hj : j ≤ k) (hf : AE X E fe wo) (ha : AA X E (e :: es) wl)
    (isr : ∀ (y : D) (h : AH) (fs : List (Str × D)), insOf h y = some (C, fs) → True := fun _ _ _ _ => trivial)
    (ht : eval (.Call fe (e :: es) [] pos) X.env = (do callWith pos (← eval fe X.env) [] (backTo pos (starEach (e :: es) X.env)) (backToKw pos (keywordEach [] X.env))) := by rfl)
    (he : starEach (e :: es) X.env = (false, eval e X.env) :: starEach es X.env := by rfl) (hpl : (backTo pos (starEach es X.env)).any (·.1) = false := by rfl) : AE X E (.Call fe (e :: es) [] pos) (wCallO C S (fun ρ h Q X => wo ρ h (fun y h1 => (∃ fs, insOf h1 y = some (C, fs)) ∧ Q y h1) X) wl) := by
  refine ⟨PE.imp (StX.pe_callO hf.run cc (G.mono hj) c.room c.ps ha.run ht he hpl) fun σ H Q ⟨F, ρ, h, S0, R, q⟩ => ?_, fun ρ h Q Q' X X' hq hx q => hf.mo _ _ _ _ _ _ (fun y h1 z => ⟨z.1, ha.mo _ _ _ _ _ _ (fun ds h2 z => ⟨z.1, mo _ _ _ _ _ _ hq hx z.2⟩) hx z.2⟩) hx q⟩
  refine ⟨F, ρ, h, S0, R, hf.mo _ _ _ _ _ _ (fun y h1 z => ?_) (fun _ _ z => z) q⟩
  intro F1 H1 v e1 S1 r
  obtain ⟨⟨fs, ei⟩, z⟩ := z
  obtain ⟨a, dx, vs, rfl, _, _⟩ := S1.insOf r ei
  refine ⟨a, rfl, F1, ρ, h1, S1, R.ext e1, ha.mo _ _ _ _ _ _ (fun ds h2 z => ?_) (fun _ _ z => LX.ext e1 z) z⟩
  intro F2 H2 us e2 S2 rs
  obtain ⟨⟨fs2, ei2⟩, z⟩ := z
  obtain ⟨a2, dx2, vs2, ea, hi, _⟩ := S2.insOf (r.ext e2) ei2
  cases ea
  exact ⟨.inr ⟨dx2, vs2, hi⟩, F2, _, h2, S2, .cons (r.ext e2) rs, mo _ _ _ _ _ _ (fun _ _ z => LQ.ext (e1.trans e2) z) (fun _ _ z => LX.ext (e1.trans e2) z) z⟩
end
end DL
namespace DL
open PySem PySem.Spec L2 C8
section
variable {P : Program} {w : World} {K : PySem.W.Frag} {mg : Str → Option Value} {base : Heap} {k : Nat} {f : Addr} {fd : FuncData} {ps : List Str} {S : FSpec}
theorem FnG.ok (G : FnG false P w K mg base k f fd ps S) : FnOk P w K mg base (L2.CX P w) k f fd ps (fun vs H Q E => spD K S vs H Q E) :=
  ⟨fun vs H Q E h => spD_len G.len h, fun A outer s H args us vs Q E hr e0 hb hv hs => G.run hr (fun z => Bool.noConfusion z) e0 hb hv hs⟩
end
section
variable {X : Cx} {E : XK} {gz : Bool} {k j : Nat} {o value e fe : Expr} {es : List Expr} {wo wv we : WE} {wl : WA} {pos pos' apos p sp_ : Pos} {f x m : Str} {C fI g pa : Addr} {S : FSpec} {fd : FuncData} {ps : List Str}
def isI (C : Addr) (x : D) (h : AH) : Prop := ∃ fs, insOf h x = some (C, fs)
/-- e.f, a property of C -/
def wProp (C : Addr) (S : FSpec) (wo : WE) : WE := fun ρ h Q X => wo ρ h (fun x h1 => isI C x h1 ∧ S [x] h1 Q (fun _ _ => False)) X
theorem ae_prop (c : Cg gz X E k) (cc : Cls X.K C) (hp : PropOf X.K C f pa g) (G : FnG false X.prog X.w X.K X.mg X.base j g fd ps S) (hb : Binds X.K fd ps []) (hj : j + 1 ≤ k) (ho : AE X E o wo)
    (hab : attributeBase o f X.env (eval o X.env) = eval o X.env := by rfl) : AE X E (.Attribute o f pos) (wProp C S wo) := by
  have hx : Passes (L2.CX X.prog X.w) X.nox L2.E0 := passL
  refine ⟨PE.imp (pe_prop ho.run cc hp G.ok (c.room.mono hj) hb .nil hx hab) fun σ H Q ⟨F, ρ, h, S0, R, q⟩ => ?_, fun ρ h Q Q' X X' hq hx q => ho.mo _ _ _ _ _ _ (fun x h1 z => ⟨z.1, G.mo _ _ _ _ _ _ hq (fun _ _ z => z) z.2⟩) hx q⟩
  refine ⟨F, ρ, h, S0, R, ho.mo _ _ _ _ _ _ (fun x h1 z => ?_) (fun _ _ z => z) q⟩
  intro F1 H1 v e1 S1 r
  obtain ⟨⟨fs, ei⟩, z⟩ := z
  obtain ⟨a, dx, vs, rfl, ha, _⟩ := S1.insOf r ei
  exact ⟨a, dx, vs, rfl, ha, F1, _, h1, S1, .cons r .nil, G.mo _ _ _ _ _ _ (fun _ _ z => LQ.ext e1 z) (fun _ _ z => z.elim) z⟩
/-- o.m(e, ..) -/
def wMet (C : Addr) (m : Str) (S : FSpec) (wo : WE) (wl : WA) : WE := fun ρ h Q X => wo ρ h (fun x h1 => ∃ fs, insOf h1 x = some (C, fs) ∧ fs.lookup m = none ∧ wl ρ h1 (fun ds h2 => S (x :: ds) h2 Q X) X) X
theorem RepF.no {K : PySem.W.Frag} {F : Hp} {f : Str} : ∀ {fs : List (Str × D)} {vs : List (Str × V)}, RepF K F fs vs → fs.lookup f = none → vs.lookup f = none
  | _, _, .nil, _ => rfl
  | _, _, @RepF.cons _ _ k x v xs vs r t, e => by
    cases c : f == k with
    | true => simp only [List.lookup_cons, c] at e; cases e
    | false =>
      simp only [List.lookup_cons, c] at e ⊢
      exact RepF.no t e
theorem ae_met {pl : Sem Bool} (c : Cg gz X E k) (cc : Cls X.K C) (hm : Meth X.K C m g) (G : FnRD X.prog X.w X.K X.mg X.base j g S) (mo : MoF S) (hj : j ≤ k) (ho : AE X E o wo) (ha : AA X E (e :: es) wl)
    (hst : starEach (e :: es) X.env = (false, eval e X.env) :: starEach es X.env := by rfl) (hpl : (backTo pos (starEach es X.env)).any (·.1) = false := by rfl)
    (ht : eval (.Call (.Attribute o m apos) (e :: es) [] pos) X.env = (do let ov ← eval o X.env; standAt apos.atName; let (f, first) ← holding [ov] (getMethod ov m pl); callWith pos f first (backTo pos (starEach (e :: es) X.env)) (backToKw pos (keywordEach [] X.env))) := by rfl) : AE X E (.Call (.Attribute o m apos) (e :: es) [] pos) (wMet C m S wo wl) := by
  refine ⟨PE.imp (pe_methR ho.run cc hm (G.mono hj) c.room c.ps ha.run hst hpl ht) fun σ H Q ⟨F, ρ, h, S0, R, q⟩ => ?_, fun ρ h Q Q' X X' hq hx q => ho.mo _ _ _ _ _ _ (fun x h1 ⟨fs, e1, e2, z⟩ => ⟨fs, e1, e2, ha.mo _ _ _ _ _ _ (fun ds h2 z => mo _ _ _ _ _ _ hq hx z) hx z⟩) hx q⟩
  refine ⟨F, ρ, h, S0, R, ho.mo _ _ _ _ _ _ (fun x h1 z => ?_) (fun _ _ z => z) q⟩
  intro F1 H1 v e1 S1 r
  obtain ⟨fs, ei, el, z⟩ := z
  obtain ⟨a, dx, vs, rfl, hi, rs⟩ := S1.insOf r ei
  refine ⟨a, dx, vs, rfl, hi, rs.no el, F1, ρ, h1, S1, R.ext e1, ha.mo _ _ _ _ _ _ (fun ds h2 z => ?_) (fun _ _ z => LX.ext e1 z) z⟩
  intro F2 H2 us e2 S2 rs2
  exact ⟨F2, _, h2, S2, .cons (r.ext e2) rs2, mo _ _ _ _ _ _ (fun _ _ z => LQ.ext (e1.trans e2) z) (fun _ _ z => LX.ext (e1.trans e2) z) z⟩
end
end DL
namespace DL
open PySem PySem.Spec L2 C8
section
variable {X : Cx} {E : XK} {gz : Bool} {k j : Nat} {a b o e : Expr} {wa wb wo wi : WE} {pos apos : Pos} {m : Str} {C g : Addr} {S : FSpec} {op : Operator}
theorem pass_no : Passes (L2.CX X.prog X.w) X L2.E0 := fun _ _ _ _ _ _ _ h => by
  obtain ⟨_, _, _, _, _, _, _, _, _, _, _, _, h⟩ := h
  exact False.elim h
theorem ins_at {pins : List (Addr × Obj)} {σ : L2.St} {H : Hp} {s : Shared} {q dx : Addr} {fs : List (Str × V)} (I : Inv X pins σ H s) (h : H q = some (.ins C dx fs)) : ∃ ox od, PySem.W.InstAt s.heap q ox C od := by
  obtain ⟨mA, O, _⟩ := ins_get I.hok h
  obtain ⟨od, J, _⟩ := O.look
  exact ⟨_, _, J⟩
/-- x op y, both instances of C -/
def rOwn2 (C : Addr) (sp : Sp) : R2 := fun x y H Q => ∃ a dx fs b dy gs, x = .ref a ∧ y = .ref b ∧ H a = some (.ins C dx fs) ∧ H b = some (.ins C dy gs) ∧ sp [x, y] H Q L2.E0
theorem op_own2 (hc : PySem.W.selfFirst X.K C = true) (hs : PySem.W.findIn X.K (.ref C) (PySem.dunder op.info.2) = some (some (.ref g))) (hf : PySem.W.isFn X.K (.ref g) = true) (G : FnRD X.prog X.w X.K X.mg X.base j g S) (hr : Room j X.A) :
    OpR X (binaryOp op) (rOwn2 C fun vs H Q E => spD X.K S vs H Q E) := by
  intro pins s σ H x y v u Q I rx ry h
  obtain ⟨p, dx, fs, q, dy, gs, rfl, rfl, hp, hq, z⟩ := h
  cases (show v = Value.ref p from rx)
  cases (show u = Value.ref q from ry)
  obtain ⟨ox, od, J⟩ := ins_at I hp
  obtain ⟨oy, ody, J'⟩ := ins_at I hq
  obtain ⟨mm, hF⟩ := I.fr
  refine PySem.W.binop_K hF I.ok.mod.kin J J'.type hc hs hf (wpAny_mono (wpAny_call (run_fnR (us := [.ref p, .ref q]) (vs := [.ref p, .ref q]) G hr pass_no I (.cons rfl (.cons rfl .nil)) z)) (fun w s' z => ?_) fun _ _ x => x)
  obtain ⟨z', H', I', rz, qz⟩ := z
  exact SlX.cmpback rz ⟨z', H', I', rz, qz⟩
def dOwn2 (C : Addr) (S : FSpec) (x y : D) (h : AH) (Q : KD) : Prop := isI C x h ∧ isI C y h ∧ S [x, y] h Q (fun _ _ => False)
theorem dOwn2_ok {K : PySem.W.Frag} (mo : MoF S) : OpD K (rOwn2 C fun vs H Q E => spD K S vs H Q E) (dOwn2 C S) where
  to := by
    rintro F h H x y vx vy Q S0 rx ry ⟨⟨fs, ex⟩, ⟨gs, ey⟩, q⟩
    obtain ⟨p, dx, us, rfl, hp, _⟩ := S0.insOf rx ex
    obtain ⟨r, dy, ws, rfl, hq, _⟩ := S0.insOf ry ey
    exact ⟨p, dx, us, r, dy, ws, rfl, rfl, hp, hq, F, _, h, S0, .cons rx (.cons ry .nil), mo _ _ _ _ _ _ (fun _ _ z => z) (fun _ _ z => z.elim) q⟩
  mo := fun hq ⟨a, b, q⟩ => ⟨a, b, mo _ _ _ _ _ _ hq (fun _ _ z => z) q⟩
/-- x op i, x an instance of C, i an int -/
def rOwnI (C : Addr) (sp : Sp) : R2 := fun x y H Q => ∃ a dx fs i, x = .ref a ∧ y = .int i ∧ H a = some (.ins C dx fs) ∧ sp [x, y] H Q L2.E0
structure OwnI (K : PySem.W.Frag) (C g : Addr) (op : Operator) : Prop where
  sf : PySem.W.selfFirst K C = true
  at_ : PySem.W.findIn K (.ref C) (PySem.dunder op.info.2) = some (some (.ref g))
  fn : PySem.W.isFn K (.ref g) = true
  rr : ∃ rc, PySem.W.findIn K (.ref C) (PySem.dunderR op.info.2) = some rc ∧ (rc = none ∨ ∃ r : Addr, rc = some (.ref r))
  f1 : ∃ fo, PySem.W.findIn K (.type "int") (PySem.dunder op.info.2) = some fo
  f2 : ∃ ro, PySem.W.findIn K (.type "int") (PySem.dunderR op.info.2) = some ro
  sb : PySem.W.subIn K (.type "int") (.ref C) = some false
theorem op_ownI (o : OwnI X.K C g op) (G : FnRD X.prog X.w X.K X.mg X.base j g S) (hr : Room j X.A) : OpR X (binaryOp op) (rOwnI C fun vs H Q E => spD X.K S vs H Q E) := by
  intro pins s σ H x y v u Q I rx ry h
  obtain ⟨p, dx, fs, i, rfl, rfl, hp, z⟩ := h
  cases (show v = Value.ref p from rx)
  obtain ⟨t, rfl⟩ := ry
  obtain ⟨ox, od, J⟩ := ins_at I hp
  obtain ⟨mm, hF⟩ := I.fr
  obtain ⟨rc, hrc, hp2⟩ := o.rr
  obtain ⟨fo, h1⟩ := o.f1
  obtain ⟨ro, h2⟩ := o.f2
  refine PySem.W.ksp_binT (T := "int") hF I.ok.mod.kin J rfl o.sf o.at_ o.fn hrc hp2 h1 h2 o.sb (wpAny_mono (wpAny_call (run_fnR (us := [.ref p, .int i t]) (vs := [.ref p, .int i]) G hr pass_no I (.cons rfl (.cons ⟨t, rfl⟩ .nil)) z)) (fun w s' z => ?_) fun _ _ x => x)
  obtain ⟨z', H', I', rz, qz⟩ := z
  exact SlX.cmpback rz ⟨z', H', I', rz, qz⟩
def dOwnI (C : Addr) (S : FSpec) (x y : D) (h : AH) (Q : KD) : Prop := ∃ i, y = .int i ∧ isI C x h ∧ S [x, y] h Q (fun _ _ => False)
theorem dOwnI_ok {K : PySem.W.Frag} (mo : MoF S) : OpD K (rOwnI C fun vs H Q E => spD K S vs H Q E) (dOwnI C S) where
  to := by
    rintro F h H x y vx vy Q S0 rx ry ⟨i, rfl, ⟨fs, ex⟩, q⟩
    obtain ⟨p, dx, us, rfl, hp, _⟩ := S0.insOf rx ex
    cases ry
    exact ⟨p, dx, us, i, rfl, rfl, hp, F, _, h, S0, .cons rx (.cons (.int i) .nil), mo _ _ _ _ _ _ (fun _ _ z => z) (fun _ _ z => z.elim) q⟩
  mo := fun hq ⟨i, a, b, q⟩ => ⟨i, a, b, mo _ _ _ _ _ _ hq (fun _ _ z => z) q⟩
/-- x[i], x an instance of C whose def is at g -/
def rIxOwn (C : Addr) (sp : Sp) : R2 := fun x y H Q => ∃ a dx fs, x = .ref a ∧ H a = some (.ins C dx fs) ∧ sp [x, y] H Q L2.E0
theorem pe_ixOwn {ta tb : TE} (at_ : PySem.W.findIn X.K (.ref C) "__getitem__" = some (some (.ref g))) (fi : PySem.W.fnIn X.K g = true) (fn : PySem.W.isFn X.K (.ref g) = true) (G : FnRD X.prog X.w X.K X.mg X.base j g S) (hr : Room j X.A.in1)
    (ha : PE X a ta) (hb : PE X b tb) (hs : ∀ v u, subscripted b true v u = runValue (.builtin "lifetime.subscript" ⟨[v, u], []⟩)) : PE X (.Subscript a b pos) (tOp (rIxOwn C fun vs H Q E => spD X.K S vs H Q E) ta tb) := by
  refine ⟨fun pins s σ H Q I h => PyProof.Rows.Subscript_ (binT ha hb I h fun v u s2 x y H2 I2 rx ry q => ?_)⟩
  obtain ⟨p, dx, fs, rfl, hp, z⟩ := q
  cases (show v = Value.ref p from rx)
  obtain ⟨ox, od, J⟩ := ins_at I2 hp
  obtain ⟨mm, hF⟩ := I2.fr
  exact PySem.W.sub_K hF I2.ok.mod.kin J at_ fi fn (wpAny_call (SlX.run_at (us := [.ref p, u]) (ws := [.ref p, y]) G hr I2.env0.in1 pass_no I2 (.cons rfl (.cons ry .nil)) z)) (hs _ _)
def dIxOwn (C : Addr) (S : FSpec) (x y : D) (h : AH) (Q : KD) : Prop := isI C x h ∧ S [x, y] h Q (fun _ _ => False)
theorem dIxOwn_ok {K : PySem.W.Frag} (mo : MoF S) : OpD K (rIxOwn C fun vs H Q E => spD K S vs H Q E) (dIxOwn C S) where
  to := by
    rintro F h H x y vx vy Q S0 rx ry ⟨⟨fs, ex⟩, q⟩
    obtain ⟨p, dx, us, rfl, hp, _⟩ := S0.insOf rx ex
    exact ⟨p, dx, us, rfl, hp, F, _, h, S0, .cons rx (.cons ry .nil), mo _ _ _ _ _ _ (fun _ _ z => z) (fun _ _ z => z.elim) q⟩
  mo := fun hq ⟨a, q⟩ => ⟨a, mo _ _ _ _ _ _ hq (fun _ _ z => z) q⟩
theorem ae_ixOwn (c : Cg gz X E k) (at_ : PySem.W.findIn X.K (.ref C) "__getitem__" = some (some (.ref g))) (fi : PySem.W.fnIn X.K g = true) (fn : PySem.W.isFn X.K (.ref g) = true) (G : FnRD X.prog X.w X.K X.mg X.base j g S) (mo : MoF S) (hj : j + 1 ≤ k)
    (ha : AE X E a wa) (hb : AE X E b wb) (hs : ∀ v u, subscripted b true v u = runValue (.builtin "lifetime.subscript" ⟨[v, u], []⟩) := by intro _ _; rfl) : AE X E (.Subscript a b pos) (wOp (dIxOwn C S) wa wb) :=
  ⟨PE.imp (pe_ixOwn at_ fi fn G (Room.in1 (c.room.mono hj)) ha.run hb.run hs) fun σ H Q h => two (dIxOwn_ok mo) ha hb h, mo_op (dIxOwn_ok (K := X.K) mo).mo ha.mo hb.mo⟩
theorem ae_own2 (c : Cg gz X E k) (hc : PySem.W.selfFirst X.K C = true) (hs : PySem.W.findIn X.K (.ref C) (PySem.dunder op.info.2) = some (some (.ref g))) (hf : PySem.W.isFn X.K (.ref g) = true) (G : FnRD X.prog X.w X.K X.mg X.base j g S) (mo : MoF S) (hj : j ≤ k)
    (ha : AE X E a wa) (hb : AE X E b wb) : AE X E (.BinOp a op b pos) (wOp (dOwn2 C S) wa wb) := ae_bin (dOwn2_ok mo) (op_own2 hc hs hf (G.mono hj) c.room) ha hb
theorem ae_ownI (c : Cg gz X E k) (o : OwnI X.K C g op) (G : FnRD X.prog X.w X.K X.mg X.base j g S) (mo : MoF S) (hj : j ≤ k)
    (ha : AE X E a wa) (hb : AE X E b wb) : AE X E (.BinOp a op b pos) (wOp (dOwnI C S) wa wb) := ae_bin (dOwnI_ok mo) (op_ownI o (G.mono hj) c.room) ha hb
/-- -x, x an instance of C -/
theorem un_own (hs : PySem.W.findIn X.K (.ref C) "__neg__" = some (some (.ref g))) (hf : PySem.W.isFn X.K (.ref g) = true) (G : FnRD X.prog X.w X.K X.mg X.base j g S) (hr : Room j X.A) :
    UnR X (unaryOp .USub) (fun x H Q => ∃ a dx fs, x = .ref a ∧ H a = some (.ins C dx fs) ∧ spD X.K S [x] H Q L2.E0) := by
  intro pins s σ H x v Q I rx h
  obtain ⟨p, dx, fs, rfl, hp, z⟩ := h
  cases (show v = Value.ref p from rx)
  obtain ⟨ox, od, J⟩ := ins_at I hp
  obtain ⟨mm, hF⟩ := I.fr
  exact PySem.W.ksp_neg hF I.ok.mod.kin J hs hf (wpAny_call (run_fnR (us := [.ref p]) (vs := [.ref p]) G hr pass_no I (.cons rfl .nil) z))
def wNegO (C : Addr) (S : FSpec) (wa : WE) : WE := fun ρ h Q X => wa ρ h (fun x h1 => isI C x h1 ∧ S [x] h1 Q (fun _ _ => False)) X
theorem ae_negO (c : Cg gz X E k) (hs : PySem.W.findIn X.K (.ref C) "__neg__" = some (some (.ref g))) (hf : PySem.W.isFn X.K (.ref g) = true) (G : FnRD X.prog X.w X.K X.mg X.base j g S) (mo : MoF S) (hj : j ≤ k) (ha : AE X E a wa) : AE X E (.UnaryOp .USub a pos) (wNegO C S wa) := by
  refine ⟨PE.imp (pe_un (un_own hs hf (G.mono hj) c.room) ha.run) fun σ H Q ⟨F, ρ, h, S0, R, q⟩ => ?_, fun ρ h Q Q' X X' hq hx q => ha.mo _ _ _ _ _ _ (fun x h1 z => ⟨z.1, mo _ _ _ _ _ _ hq (fun _ _ z => z) z.2⟩) hx q⟩
  refine ⟨F, ρ, h, S0, R, ha.mo _ _ _ _ _ _ (fun x h1 z => ?_) (fun _ _ z => z) q⟩
  intro F1 H1 v e1 S1 r
  obtain ⟨⟨fs, ei⟩, z⟩ := z
  obtain ⟨p, dx, vs, rfl, hp, _⟩ := S1.insOf r ei
  exact ⟨p, dx, vs, rfl, hp, F1, _, h1, S1, .cons r .nil, mo _ _ _ _ _ _ (fun _ _ z => LQ.ext e1 z) (fun _ _ z => z.elim) z⟩
end
end DL
namespace DL
open PySem PySem.Spec L2 C8
section
variable {X : Cx} {E : XK} {gz : Bool} {k : Nat} {a b e o : Expr} {rest : List Expr} {wa wb wo : WE} {pos apos cpos p : Pos} {m : Str} {C g : Addr} {S : FSpec} {j : Nat}
/-- a or b, a of any truth -/
def wOrT (wa wb : WE) : WE := fun ρ h Q X => wa ρ h (fun x h1 => ∃ k, truD h1 x = some k ∧ if k = true then Q x h1 else wb ρ h1 Q X) X
theorem ae_orT (ha : AE X E a wa) (hb : AE X E (.BoolOp .Or (b :: rest) pos) wb) : AE X E (.BoolOp .Or (a :: b :: rest) pos) (wOrT wa wb) := by
  refine ⟨PE.imp (pe_orT ha.run hb.run) fun σ H Q ⟨F, ρ, h, S0, R, q⟩ => ?_, fun ρ h Q Q' X X' hq hx q => ha.mo _ _ _ _ _ _ (fun x h1 ⟨k, e1, z⟩ => ⟨k, e1, ?_⟩) hx q⟩
  · refine ⟨F, ρ, h, S0, R, ha.mo _ _ _ _ _ _ (fun x h1 z => ?_) (fun _ _ z => z) q⟩
    intro F1 H1 v e1 S1 r
    obtain ⟨k, ek, z⟩ := z
    refine ⟨k, S1.truD r ek, ?_⟩
    split at z
    · rename_i c; rw [if_pos c]; exact z F1 H1 v e1 S1 r
    · rename_i c; rw [if_neg c]; exact ⟨F1, ρ, h1, S1, R.ext e1, hb.mo _ _ _ _ _ _ (fun _ _ z => LQ.ext e1 z) (fun _ _ z => LX.ext e1 z) z⟩
  · split at z
    · rename_i c; rw [if_pos c]; exact hq _ _ z
    · rename_i c; rw [if_neg c]; exact hb.mo _ _ _ _ _ _ hq hx z
/-- o.m() -/
theorem ae_met0 {pl : Sem Bool} (c : Cg gz X E k) (cc : Cls X.K C) (hm : Meth X.K C m g) (G : FnRD X.prog X.w X.K X.mg X.base j g S) (mo : MoF S) (hj : j ≤ k) (ho : AE X E o wo)
    (ht : eval (.Call (.Attribute o m apos) [] [] pos) X.env = (do let ov ← eval o X.env; standAt apos.atName; let (f, first) ← holding [ov] (getMethod ov m pl); callWith pos f first (backTo pos (starEach [] X.env)) (backToKw pos (keywordEach [] X.env))) := by rfl) : AE X E (.Call (.Attribute o m apos) [] [] pos) (wMet C m S wo wNil) := by
  refine ⟨⟨fun pins s σ H Q I hq => ?_⟩, fun ρ h Q Q' X X' hq hx q => ho.mo _ _ _ _ _ _ (fun x h1 ⟨fs, e1, e2, z⟩ => ⟨fs, e1, e2, mo _ _ _ _ _ _ hq hx z⟩) hx q⟩
  obtain ⟨F, ρ, h, S0, R, q⟩ := hq
  refine PySem.W.methodCall_KW (pl := pl) (thn (ho.run.run pins s σ H (fun x H1 => ∃ a dx fs, x = .ref a ∧ H1 a = some (.ins C dx fs) ∧ fs.lookup m = none ∧ spD X.K S [x] H1 Q E) I
    ⟨F, ρ, h, S0, R, ho.mo _ _ _ _ _ _ (fun x h1 z F1 H1 v e1 S1 r => ?_) (fun _ _ z => z) q⟩) fun u s1 ⟨x, H1, I1, rx, q', dx, fs, ex, ea, l, z⟩ => ?_) ht
  · obtain ⟨fs, ei, el, z⟩ := z
    obtain ⟨q', dx, vs, rfl, hi, rs⟩ := S1.insOf r ei
    exact ⟨q', dx, vs, rfl, hi, rs.no el, F1, _, h1, S1, .cons r .nil, mo _ _ _ _ _ _ (fun _ _ z => LQ.ext e1 z) (fun _ _ z => LX.ext e1 z) z⟩
  · subst ex
    obtain rfl : u = Value.ref q' := rx
    refine getmeth_ok I1 ea cc hm l ?_
    exact PySem.W.callWith_K0 (first := [.ref q']) I1.kIn hm.kp (wpAny_call (run_fnR (us := [.ref q']) (vs := [.ref q']) (G.mono hj) c.room c.ps I1 (.cons rfl .nil) z))
end
end DL
namespace DL
open PySem PySem.Spec L2 C8
/-! ### dict comprehensions -/
def dcD (st : AH → Prop) (g : WG) (tt : WT) (tk tv : WE) (vs : List Nat) (ρ : EnvD) (p : Addr) : List D → AH → (AH → Prop) → Prop
  | [], h, Q => st h ∧ Q h
  | x :: r, h, Q => st h ∧ g x (wipeD ρ vs) h (fun ρ2 h2 => tt ρ2 h2 (fun b h3 => if b = true then tk ρ2 h3 (fun y h4 => tv ρ2 h4 (fun z h5 => ∃ kvs k, keyD y = some k ∧ h5 p = some (.dK kvs) ∧ kvs.length < sizeLine ∧ dcD st g tt tk tv vs ρ p r (up h5 p (.dK (putD kvs k z))) Q) (fun _ _ => False)) (fun _ _ => False)
      else dcD st g tt tk tv vs ρ p r h3 Q) (fun _ _ => False)) (fun _ _ => False)
def endK (m : Bool) (p : Addr) (Q : KD) : AH → Prop := fun h => ∃ kvs, h p = some (.dK kvs) ∧ if m = true then Q (.ref p) h else Q (.dK kvs) (rm h p)
def wDc (m : Bool) (wi : WI) (g : WG) (tt : WT) (tk tv : WE) (vs : List Nat) : WE := fun ρ h Q X => wi ρ h (fun xs st h1 => ∀ p, h1 p = none → dcD st g tt tk tv vs ρ p xs (up h1 p (.dK [])) (endK m p Q)) X
theorem dcD_mo {st : AH → Prop} {g : WG} {tt : WT} {tk tv : WE} {vs : List Nat} {ρ : EnvD} {p : Addr} (mg : MoG g) (mt : MoT tt) (mk : MoE tk) (mv : MoE tv) {Q Q' : AH → Prop} (hq : ∀ h, Q h → Q' h) : ∀ (xs : List D) (h : AH), dcD st g tt tk tv vs ρ p xs h Q → dcD st g tt tk tv vs ρ p xs h Q'
  | [], h, q => ⟨q.1, hq _ q.2⟩
  | x :: r, h, q => ⟨q.1, mg _ _ _ _ _ _ _ (fun ρ2 h2 z => mt _ _ _ _ _ _ (fun b h3 z => by
      split at z
      · rename_i c; rw [if_pos c]
        exact mk _ _ _ _ _ _ (fun y h4 z => mv _ _ _ _ _ _ (fun w h5 ⟨kvs, k, e1, e2, l, z⟩ => ⟨kvs, k, e1, e2, l, dcD_mo mg mt mk mv hq r _ z⟩) (fun _ _ z => z) z) (fun _ _ z => z) z
      · rename_i c; rw [if_neg c]; exact dcD_mo mg mt mk mv hq r _ z) (fun _ _ z => z) z) (fun _ _ z => z) q.2⟩
theorem endK_mo {m : Bool} {p : Addr} {Q Q' : KD} (hq : ∀ d h, Q d h → Q' d h) : ∀ h, endK m p Q h → endK m p Q' h := fun h ⟨acc, e, z⟩ => ⟨acc, e, by
  split at z
  · rename_i c; rw [if_pos c]; exact hq _ _ z
  · rename_i c; rw [if_neg c]; exact hq _ _ z⟩
theorem endK_to {K : PySem.W.Frag} {F : Hp} {h : AH} {H : Hp} {m : Bool} {p : Addr} {Q : VK} (S : Sim K F h H) (q : endK m p (LQ K F Q) h) : Q (.ref p) H := by
  obtain ⟨kvs, e, q⟩ := q
  split at q
  · exact q.at S (.ref p)
  · obtain ⟨f, u, hu, us, rfl, rs⟩ := S.ob _ _ e
    obtain ⟨e2, S2⟩ := S.frz e hu rm_same rm_sub
    exact q _ _ _ e2 S2 (.dK upd_same (rs.ext e2))
section
variable {X : Cx} {E : XK} {gz : Bool} {k : Nat} {kx vx tg iter : Expr} {ifs : List Expr} {scope : Scope} {own : List (Str × Nat)} {pos : Pos} {wi : WI} {g : WG} {gv : TG} {tt : WT} {tk tv : WE}
theorem wipe2 {σ : L2.St} (vs : List Nat) : L2.wipe (L2.wipe σ vs) vs = L2.wipe σ vs := by
  have key : ∀ (us vs : List Nat), (∀ u ∈ us, u ∈ vs) → L2.wipe (L2.wipe σ us) vs = L2.wipe σ vs := by
    intro us
    induction us with
    | nil => intro vs _; rfl
    | cons u us ih =>
      intro vs hu
      show L2.wipe ((L2.wipe σ us).set u none) vs = _
      rw [wipe_set (hu u (List.mem_cons_self ..)), ih vs fun w hw => hu w (List.mem_cons_of_mem _ hw)]
  exact key vs vs fun _ h => h
theorem to_dc {m : Bool} (mi : MoI wi) (mg : MoG g) (mt : MoT tt) (mk : MoE tk) (mv : MoE tv) (gw : GW X.K (own.map (·.2)) g gv) {σ : L2.St} {H : Hp} {Q : VK} (h : tE X.K E (wDc m wi g tt tk tv (own.map (·.2))) σ H Q) :
    tDc (tI X.K E wi) gv (tT X.K L2.E0 tt) (tE X.K L2.E0 tk) (tE X.K L2.E0 tv) (own.map (·.2)) σ H Q := by
  obtain ⟨F, ρ, h0, S, R, q⟩ := h
  refine ⟨F, ρ, h0, S, R, mi _ _ _ _ _ _ (fun xs st h1 z => ?_) (fun _ _ z => z) q⟩
  intro F1 H1 J e1 S1 it D hD
  obtain ⟨f1, g1⟩ := S1.free hD
  have z := z D g1
  refine ⟨fun i n H => n = xs.length - i ∧ i ≤ xs.length ∧ ∃ F2 h2, Ext F1 F2 ∧ Sim X.K F2 h2 H ∧ dcD st g tt tk tv (own.map (·.2)) ρ D (xs.drop i) h2 (endK m D (LQ X.K F2 Q)),
    ⟨xs.length, by simp, Nat.zero_le _, F1, _, .refl _, S1.newM hD (o := .dK []) ⟨[], rfl, .nil⟩, dcD_mo mg mt mk mv (endK_mo fun _ _ z => LQ.ext e1 z) _ _ (by simpa using z)⟩, ?_⟩
  rintro i n H2 ⟨rfl, hi, F2, h2, e2, S2, z2⟩
  by_cases lt : i < xs.length
  · rw [List.drop_eq_getElem_cons lt] at z2
    obtain ⟨hst, z2⟩ := z2
    refine .inr ⟨it.go e2 S2 hst lt, fun H' => ∃ F3 h3, Ext F1 F3 ∧ Sim X.K F3 h3 H' ∧ dcD st g tt tk tv (own.map (·.2)) ρ D (xs.drop (i + 1)) h3 (endK m D (LQ X.K F3 Q)), fun H' p => ⟨xs.length - (i + 1), by omega, rfl, lt, p⟩, fun x H' y => ?_⟩
    obtain ⟨F3, e3, S3, r3⟩ := it.yld e2 S2 hst y (List.getElem?_eq_getElem lt)
    have R3 := (R.ext (e1.trans (e2.trans e3))).wipe (own.map (·.2))
    refine gw.to S3 r3 R3 z2 fun ρ4 σ4 R4 z4 ew => ⟨by rw [ew, wipe2], F3, ρ4, h2, S3, R4, mt _ _ _ _ _ _ (fun b h5 z5 => ?_) (fun _ _ z => z.elim) z4⟩
    intro F5 H5 e5 S5
    split at z5
    · rename_i cb
      rw [if_pos cb]
      refine ⟨F5, ρ4, h5, S5, R4.ext e5, mk _ _ _ _ _ _ (fun y h6 z6 => ?_) (fun _ _ z => z.elim) z5⟩
      intro F6 H6 v6 e6 S6 r6
      refine ⟨F6, ρ4, h6, S6, (R4.ext e5).ext e6, mv _ _ _ _ _ _ (fun w h7 z7 => ?_) (fun _ _ z => z.elim) z6⟩
      intro F7 H7 v7 e7 S7 r7
      obtain ⟨kvs, kk, ek, ea, la, z7⟩ := z7
      obtain ⟨fa, u, hu, us, rfl, rs⟩ := S7.ob _ _ ea
      have eall := e3.trans (e5.trans (e6.trans e7))
      exact ⟨us, kk, keyD_to r6 ek, hu, by rw [← rs.length]; exact la, F7, _, e2.trans eall, S7.put ea (o := .dK (putD kvs kk w)) ⟨_, rfl, rs.put kk r7⟩, dcD_mo mg mt mk mv (endK_mo fun _ _ z => LQ.ext eall z) _ _ z7⟩
    · rename_i cb
      rw [if_neg cb]
      exact ⟨F5, _, e2.trans (e3.trans e5), S5, dcD_mo mg mt mk mv (endK_mo fun _ _ z => LQ.ext (e3.trans e5) z) _ _ z5⟩
  · have e : i = xs.length := by omega
    subst e
    rw [List.drop_length] at z2
    exact .inl ⟨it.stop e2 S2 z2.1 rfl, endK_to S2 z2.2⟩
theorem ae_dc (m : Bool) (c : Cg gz X E k) (hi : AI X E tg iter wi) (ok : BlkOk X.N X.env.scope scope own) (gw : GW X.K (own.map (·.2)) g gv)
    (hg : ∀ (s : Shared) (H : Hp) (C : Addr) (cl : List (Str × Addr)) (fp : List Addr), PG (Blk X scope s H C cl fp) tg gv)
    (ht : ∀ (s : Shared) (H : Hp) (C : Addr) (cl : List (Str × Addr)) (fp : List Addr), Cg gz (Blk X scope s H C cl fp) L2.E0 k → ATs (Blk X scope s H C cl fp) L2.E0 ifs tt)
    (hk : ∀ (s : Shared) (H : Hp) (C : Addr) (cl : List (Str × Addr)) (fp : List Addr), Cg gz (Blk X scope s H C cl fp) L2.E0 k → AE (Blk X scope s H C cl fp) L2.E0 kx tk)
    (he : ∀ (s : Shared) (H : Hp) (C : Addr) (cl : List (Str × Addr)) (fp : List Addr), Cg gz (Blk X scope s H C cl fp) L2.E0 k → AE (Blk X scope s H C cl fp) L2.E0 vx tv)
    (hs : ∀ x, foldedSetIterable iter X.env x = pure x := by intro _; rfl) : AE X E (.DictComp kx vx [⟨tg, iter, ifs, 0⟩] scope pos) (wDc m wi g tt tk tv (own.map (·.2))) := by
  have mg := gw.mo
  have mt := (ht X.s_0 X.H_0 0 [] [] (cg_blk c _ _ _ _ _)).mo
  have mk := (hk X.s_0 X.H_0 0 [] [] (cg_blk c _ _ _ _ _)).mo
  have mv := (he X.s_0 X.H_0 0 [] [] (cg_blk c _ _ _ _ _)).mo
  exact ⟨PE.imp (pe_dc (tt := tT X.K L2.E0 tt) (tk := tE X.K L2.E0 tk) (tv := tE X.K L2.E0 tv) c.calm c.nd hi.run ok hg (fun s H C cl fp => (ht s H C cl fp (cg_blk c s H C cl fp)).run) (fun s H C cl fp => (hk s H C cl fp (cg_blk c s H C cl fp)).run) (fun s H C cl fp => (he s H C cl fp (cg_blk c s H C cl fp)).run) hs) fun σ H Q h => to_dc hi.mo mg mt mk mv gw h,
    fun ρ h Q Q' X X' hq hx q => hi.mo _ _ _ _ _ _ (fun xs st h1 z p hp => dcD_mo mg mt mk mv (endK_mo hq) _ _ (z p hp)) hx q⟩
end
/-! ### x[::-1] of a list -/
theorem Reps.rev {K : PySem.W.Frag} {F : Hp} : ∀ {xs : List D} {vs : List V}, Reps K F xs vs → Reps K F xs.reverse vs.reverse
  | _, _, .nil => .nil
  | _, _, .cons r t => by rw [List.reverse_cons, List.reverse_cons]; exact (Reps.rev t).append (.cons r .nil)
def wRev (m : Bool) (wo : WE) : WE := fun ρ h Q X => wo ρ h (fun x h1 => ∃ xs, lstOf h1 x = some xs ∧ newL m xs.reverse h1 Q) X
theorem ae_rev (m : Bool) {X : Cx} {E : XK} {o : Expr} {wo : WE} {k : Nat} {p1 p2 p3 pos : Pos} (ho : AE X E o wo) : AE X E (.Subscript o (.Slice none none (some (.UnaryOp .USub (.Constant (.int 1) k p1) p2)) p3) pos) (wRev m wo) := by
  refine ⟨PE.imp (pe_revL ho.run) fun σ H Q ⟨F, ρ, h, S0, R, q⟩ => ?_, fun ρ h Q Q' X X' hq hx q => ho.mo _ _ _ _ _ _ (fun x h1 ⟨xs, e1, z⟩ => ⟨xs, e1, newL_mo hq z⟩) hx q⟩
  refine ⟨F, ρ, h, S0, R, ho.mo _ _ _ _ _ _ (fun x h1 z => ?_) (fun _ _ z => z) q⟩
  intro F1 H1 v e1 S1 r
  obtain ⟨xs, ex, z⟩ := z
  obtain ⟨a, vs, rfl, ha, rs⟩ := S1.lstOf r ex
  exact ⟨a, vs, rfl, .of ha, S1.newL rs.rev (newL_mo (fun _ _ z => LQ.ext e1 z) z)⟩
end DL
namespace DL
open PySem PySem.Spec L2 C8 PyProof.Rows
section
variable {prog : Program} {w : World} {A : Around} {E : Value → Shared → Prop} {s : Shared} {t : Addr} {its : List Value} {ns : List Int} {Q : Value → Shared → Prop}
theorem sum_tupR (hh : A.handled = none) (hl : s.heap.IsTuple t its.toArray) (hi : IntsAre its ns)
    (h : ∀ h' tk u, (∀ b o, s.heap.get? b = some o → h'.get? b = some o) → Q (.int ns.sum u) { s with heap := h', toks := tk }) : wpAny (model prog w) A (call (.builtin "sum") [.ref t]) Q E s := by
  obtain ⟨xs, e⟩ := hi.allInts.items
  have hn : numsOf (intItems xs).toList = ns := by rw [← e]; exact hi.numsOf
  rw [nums_intItems] at hn
  rw [e] at hl
  have lt : t < s.heap.objs.size := by obtain ⟨_, x, _⟩ := hl; exact Heap.lt_size x
  refine call_sum_walkG (wpAny_pyIter_tuple hl ?_)
  refine ⟨s.heap.objs.size, [s.heap.objs.size, t], [s.heap.objs.size], _, _, _, numAt xs, rfl, Walks.tuple (A := A.in1) hh _ t (Nat.ne_of_lt lt) (intItems xs), ⟨⟨_, Heap.get?_push_size _ rfl, rfl, rfl⟩, hl.push _⟩, fun b hb => ?_, (fun _ _ => intItems_at), fun h' tk u hk => ?_⟩
  · rw [Heap.size_push]
    rcases (by simpa using hb : b = s.heap.objs.size ∨ b = t) with z | z
    · rw [z]; exact Nat.lt_succ_self _
    · rw [z]; exact Nat.lt_succ_of_lt lt
  · have z := h h' tk u fun b o q => hk b o (by
      have : b ≠ s.heap.objs.size := Nat.ne_of_lt (Heap.lt_size q)
      simpa using this) (Heap.get?_push_of_some _ q)
    rw [← hn] at z
    rw [preSum_eq, List.take_of_length_le (by simp [intItems])]
    exact z
end
section
variable {X : Cx}
def rSumTD (K : PySem.W.Frag) : List V → Hp → VK → Prop := fun vs H Q => ∃ (a : Addr) (ns : List Int), vs = [V.ref a] ∧ SqT K H a (ns.map V.int) ∧ Q (.int ns.sum) H
theorem cr_sumT (hc : X.calm = true) : CallR X (.builtin "sum") (rSumTD X.K) := by
  intro pins s σ H vs us Q I r h
  obtain ⟨a, ns, rfl, hs, q⟩ := h
  obtain ⟨its, rv, hl, _⟩ := I.tuple hs
  rw [Vals.ref1 r]
  exact sum_tupR (I.ok.hd hc) hl rv.ints fun h' tk u hk => ⟨.int _, H, I.kept hk, ⟨_, rfl⟩, q⟩
def dSumT (ds : List D) (h : AH) (Q : KD) : Prop := ∃ ns : List Int, ds = [.tup (ns.map D.int)] ∧ Q (.int ns.sum) h
theorem dSumT_ok (hc : X.calm = true) : CaD X (.builtin "sum") dSumT where
  ex := by
    refine ⟨_, cr_sumT hc, ?_⟩
    rintro F h H ds vs Q S r ⟨ns, rfl, q⟩
    obtain ⟨v, rfl, rv⟩ := r.one
    cases rv with
    | @tup a _ us hs rs =>
      obtain rfl := rs.ints
      exact ⟨a, ns, rfl, sqt_of S.fz hs, q.at S (.int _)⟩
  mo := fun hq ⟨ns, e, q⟩ => ⟨ns, e, hq _ _ q⟩
end
end DL
namespace DL
open PySem PySem.Spec L2 C8 PyProof.Rows

section
variable {X : Cx}
/-- sorted(d), d with int keys, any number of them -/
theorem cr_sortedDK (hcalm : X.calm = true) : CallR X (.builtin "sorted") (fun xs H Q => ∃ (a : Addr) (kvs : List (Key × V)) (ks : List Int), xs = [.ref a] ∧ Rd H a (.dK kvs) ∧ kvs.map (·.1) = ks.map Sum.inl ∧
    ∀ (ys : List Int) (p : Addr), ys.Perm ks → ys.Pairwise (· ≤ ·) → H p = none → Q (.ref p) (upd H p (.lst (ys.map V.int)))) := by
  intro pins s σ H xs us Q I r q
  obtain ⟨a, kvs, ks, ex, hd, hks, q⟩ := q
  subst ex
  obtain ⟨u, eu, rx⟩ := vals1 r
  subst eu
  cases rx
  obtain ⟨z, lo, vs, rel, dd⟩ := dk_rd I.hok hd
  obtain ⟨ep, hat⟩ := dd.dictAt
  have hkeys : vs.map (·.1) = ks.map Sum.inl := rel.keys.symm.trans hks
  have hl : vs.length = ks.length := by
    have e := congrArg List.length hkeys
    rw [List.length_map, List.length_map] at e
    exact e
  have h16 : vs.length ≤ sizeLine := by rw [← Paired.length rel]; exact z
  refine Calls.call_function_entry PyProof.Rows.kind_sorted PyProof.Rows.plain_sorted PyProof.Rows.entry_sorted (PyProof.Rows.args_sorted1 _) ?_
  unfold Builtin.«sorted»
  refine wpAny_bind (m := checkCount "sorted" 1 1 _) (wpAny_pure ?_)
  refine wpAny_bind (PySem.W.kdu_collect (A := X.A.in1) (PySem.W.kdl_dict (knd := mixKind X.prog X.w) (kvs := vs) (ep := ep) lo) (I.ok.hd hcalm) hat h16 fun h' tk acc hk hacc => ?_)
  have hal : acc.toList.length = ks.length := by rw [Array.length_toList, hacc.1, hl]
  have hS : IntsAre acc.toList ks := ints_each hal fun j v e => by
    obtain ⟨k, x, e1, e2⟩ := hacc.2 j v (by rw [← Array.getElem?_toList]; exact e)
    have e3 : (vs.map (·.1))[j]? = some k := by rw [List.getElem?_map, e1]; rfl
    rw [hkeys, List.getElem?_map] at e3
    cases e4 : ks[j]? with
    | none => rw [e4] at e3; cases e3
    | some y =>
      rw [e4] at e3
      have e5 : Sum.inl y = k := Option.some.inj e3
      subst e5
      rcases keyIs_shape (show keyIs (Sum.inl y) v = true from e2) with ⟨i, t, ek, ev⟩ | ⟨z, t, ek, ev⟩
      · cases ek
        exact ⟨y, t, rfl, ev⟩
      · cases ek
  have I1 : Inv X pins σ H { s with heap := h', toks := tk } := I.kept hk
  have hz : acc.toList.length ≤ sizeLine := by rw [hal, ← hl]; exact h16
  refine wpAny_bind (wpAny_newList ?_ hz)
  have hoL : (h'.push (seqObj "list" acc.toList.toArray 0)).get? h'.objs.size = some (seqObj "list" acc.toList.toArray 0) := Heap.get?_push_size _ rfl
  show wpAny _ _ _ _ _ { s with heap := h'.push (seqObj "list" acc.toList.toArray 0), toks := tk }
  refine wpAny_bind (wpAny_holding (wpAny_call_entry PyProof.Rows.slot_list_sort ⟨_, hoL, rfl⟩ PyProof.Rows.entry_list_sort
    (SrtO.list_sort_ord (s := { s with heap := h'.push (seqObj "list" acc.toList.toArray 0), toks := tk }) SrtO.swo_int hoL hz (fun h2 => SrtO.ints_sortable hS h2) fun out g1 g2 => ⟨_, rfl, ?_⟩) (PyProof.Rows.args_list_sort _)))
  obtain ⟨k1, k2, k3⟩ := SrtO.ints_out hS g1 g2
  obtain ⟨e', he'⟩ := PyProof.Rows.sortedHeap_at (vs := acc.toList) (out := out.toArray) hoL
  have hlen : ((out.map SrtO.iv).map V.int).length ≤ sizeLine := by
    rw [List.length_map, k2.length_eq, ← hal]; exact hz
  refine wpAny_pure ⟨_, rfl, .ref h'.objs.size, upd H h'.objs.size (.lst ((out.map SrtO.iv).map V.int)), I1.laid (t' := tk) (fun b u e => ?_) (Nat.le_refl _)
    (show ObjOk X.prog X.w _ _ _ (.lst ((out.map SrtO.iv).map V.int)) from ⟨hlen, out, e', vals_of_ints k1, he'⟩), rfl, q _ _ k2 k3 (I1.hok.fresh (Nat.le_refl _))⟩
  have hb : b < h'.objs.size := Heap.lt_size e
  rw [PyProof.Rows.sortedHeap_old (Nat.ne_of_lt hb) (by rw [size_push']; exact Nat.lt_succ_of_lt hb)]
  exact Heap.get?_push_of_some _ e
end
/-- a key as data -/
def kD : Key → D
  | .inl i => .int i
  | .inr s => .str s
section
variable {K : PySem.W.Frag} {F : Hp} {h : AH} {H : Hp}
theorem kD_rep {F : Hp} (k : Key) : Rep K F (kD k) (kV k) := by
  cases k with
  | inl i => exact .int i
  | inr s => exact .str s
theorem kD_reps {F : Hp} : ∀ (kvs : List (Key × D)) (vs : List (Key × V)), RepK K F kvs vs → Reps K F (kvs.map fun kv => kD kv.1) (vs.map fun kv => kV kv.1)
  | _, _, .nil => .nil
  | _, _, .cons _ t => .cons (kD_rep _) (kD_reps _ _ t)
end
section
variable {X : Cx}
def dSortD (m : Bool) (ds : List D) (h : AH) (Q : KD) : Prop := ∃ (x : D) (kvs : List (Key × D)) (ks : List Int), ds = [x] ∧ dkOf h x = some kvs ∧ kvs.map (·.1) = ks.map Sum.inl ∧ ∀ ys : List Int, ys.Perm ks → ys.Pairwise (· ≤ ·) → newL m (ys.map D.int) h Q
theorem reps_intsD {K : PySem.W.Frag} {F : Hp} : ∀ ns : List Int, Reps K F (ns.map D.int) (ns.map V.int)
  | [] => .nil
  | n :: ns => .cons (.int n) (reps_intsD ns)
theorem dSortD_ok {m : Bool} (hc : X.calm = true) : CaD X (.builtin "sorted") (dSortD m) where
  ex := ⟨_, cr_sortedDK hc, fun {F h H ds vs Q} S r q => by
    obtain ⟨x, kvs, ks, rfl, e, hk, q⟩ := q
    obtain ⟨v, rfl, r1⟩ := r.one
    obtain ⟨a, us, rfl, ha, rs⟩ := S.dkOf r1 e
    exact ⟨a, us, ks, rfl, .of ha, by rw [← rs.keys]; exact hk, fun ys p h1 h2 h3 => S.newL (reps_intsD ys) (q ys h1 h2) p h3⟩⟩
  mo := fun {ds h Q Q'} hq ⟨x, kvs, ks, e, e2, e3, q⟩ => ⟨x, kvs, ks, e, e2, e3, fun ys h1 h2 => newL_mo hq (q ys h1 h2)⟩
/-- sorted of a list of ints -/
def dSortI (m : Bool) (ds : List D) (h : AH) (Q : KD) : Prop := ∃ (x : D) (ks : List Int), ds = [x] ∧ lstOf h x = some (ks.map D.int) ∧ ∀ ys : List Int, ys.Perm ks → ys.Pairwise (· ≤ ·) → newL m (ys.map D.int) h Q
theorem dSortI_ok {m : Bool} : CaD X (.builtin "sorted") (dSortI m) where
  ex := ⟨_, cr_sortedI, fun {F h H ds vs Q} S r q => by
    obtain ⟨x, ks, rfl, e, q⟩ := q
    obtain ⟨v, rfl, r1⟩ := r.one
    obtain ⟨a, us, rfl, ha, rs⟩ := S.lstOf r1 e
    rw [rs.ints] at ha
    exact ⟨a, ks, rfl, .of ha, fun ys p h1 h2 h3 => S.newL (reps_intsD ys) (q ys h1 h2) p h3⟩⟩
  mo := fun {ds h Q Q'} hq ⟨x, ks, e, e2, q⟩ => ⟨x, ks, e, e2, fun ys h1 h2 => newL_mo hq (q ys h1 h2)⟩
/-- list(d): its keys -/
def dListD (m : Bool) (ds : List D) (h : AH) (Q : KD) : Prop := ∃ (x : D) (kvs : List (Key × D)), ds = [x] ∧ dkOf h x = some kvs ∧ newL m (kvs.map fun kv => kD kv.1) h Q
theorem dListD_ok {m : Bool} (hc : X.calm = true) : CaD X (.type "list") (dListD m) where
  ex := ⟨_, call_list_dK hc, fun {F h H ds vs Q} S r q => by
    obtain ⟨x, kvs, rfl, e, q⟩ := q
    obtain ⟨v, rfl, r1⟩ := r.one
    obtain ⟨a, us, rfl, ha, rs⟩ := S.dkOf r1 e
    exact ⟨a, us, rfl, ha, S.newL (kD_reps _ _ rs) q⟩⟩
  mo := fun {ds h Q Q'} hq ⟨x, kvs, e, e2, q⟩ => ⟨x, kvs, e, e2, newL_mo hq q⟩
end
end DL
namespace DL
open PySem PySem.Spec L2 C8 PyProof.Rows
/-! ### dict(t), t a tuple of pairs -/
theorem tuple_keys_none : typeLookup (.type "tuple") "keys" = pure none := am_miss_of_fast (by first | decide +kernel | rfl)
section
variable {prog : Program} {w : World} {A : Around} {E : Value → Shared → Prop}
theorem miss_tuple {s : Shared} {a : Addr} {o : Obj} {xs : Array Value} {k : Nat} {Q : Option Value → Shared → Prop} (hx : s.heap.get? a = some o) (hc : o.cls = .type "tuple") (hdat : o.data = .seq xs k) (hd : o.dict = none) (hA : A.handled = none)
    (h : ∀ h' tk, (∀ b ob, s.heap.get? b = some ob → h'.get? b = some ob) → Q none { s with heap := h', toks := tk }) : wpAny (model prog w) A (getAttr? (.ref a) "keys") Q E s := by
  obtain ⟨c, dct, dat, sl⟩ := o
  simp only at hc hdat hd
  subst hc hdat hd
  obtain ⟨hp, g, d, tk, os⟩ := s
  have hT : ∀ tk', (⟨hp, g, d, tk', os⟩ : Shared).TypeIs (.ref a) "tuple" := fun _ => ⟨_, hx, rfl⟩
  have hmiss := tuple_keys_none
  have hname : (["__module__", "__name__", "__qualname__", "__doc__", "__annotations__"] : List Str).contains "keys" = false := by decide +kernel
  have hsz : ("keys" : Str).length + 100 ≤ sizeLine := by first | size_fits | decide +kernel
  have f1 := sub_AttributeError
  have f3 := PySem.F.slot_tuple_getattribute.lookup
  have f4 := PySem.F.slot_tuple_getattribute.bind (.ref a)
  have f5 := am_tuple_getattr_none
  unfold getAttr? getAttrBy? getAttrBy
  repeat (any_goals (first | assumption | exact hT _ | ((with_reducible show wpAny _ _ (call (Value.builtin "tuple.__getattribute__") _ _) _ _ _); refine call_meets PySem.F.slot_tuple_getattribute (hT _) am_entry_tuple_getattribute (PySem.F.args_tuple_getattribute_2 _ _) (meets_getattribute_miss_tuple a xs k sl "keys" _ hmiss hname hsz) ⟨hx, hA, fun h' tk' e hx' => ?_⟩) | wp_step))
  obtain ⟨t', u', he⟩ := hx'.there
  show wpAny _ _ (getattributeRaised _ _ _ _ _ _ _) _ _ _
  unfold getattributeRaised
  repeat (any_goals (first | assumption | wp_step))
  all_goals first | exact h _ _ hx'.keeps | (dsimp only; repeat (any_goals (first | assumption | exact h _ _ hx'.keeps | wp_step)))

/-- the walk over the pairs -/
theorem upd_loopT {R : Result → Shared → Prop} {S I l : Addr} {items : Array Value} {res : Value} (hh : A.handled = none) (hlI : l ≠ I) (hSI : S ≠ I) (hSl : S ≠ l) :
    ∀ (rest : List (Key × Value)) (i : Nat) (acc : List (Key × Value)) (ix : Int) (t : Tok) (s : Shared), items.size = i + rest.length → acc.length + rest.length ≤ sizeLine →
      (∀ (j : Nat) (q : Key × Value), rest[j]? = some q → ∃ (b : Addr) (u : Value), items[i + j]? = some (.ref b) ∧ b ≠ S ∧ b ≠ I ∧ IsTup s.heap b #[u, q.2] ∧ keyIs q.1 u = true) →
      s.heap.IsTupleIter I l i → s.heap.IsTuple l items → s.heap.DictOf (mixKind prog w) S acc →
      (∀ h' tk, h'.DictOf (mixKind prog w) S (merged acc rest) → (∀ b o, b ≠ S → b ≠ I → s.heap.get? b = some o → h'.get? b = some o) → R (.ok (.ret res)) { s with heap := h', toks := tk }) →
      codeAny (model prog w) A (.builtin "dict.update.loop" ⟨[.ref S, .ref I, .int ix t, res], []⟩) R s
  | [], i, acc, ix, t, s, hsz, hln, ht, hit, hl, hm, hR => by
    refine codeAny_builtin ud_entry ?_
    rw [Around.under_plainId ud_plain _]
    show wpAny _ A.in1 (pyNext (.ref I) >>= _) _ _ s
    refine wpAny_bind (wpAny_pyNext_tuple_end (A := A.in1) hh hit hl (by first | exact Array.getElem?_eq_none (Nat.le_of_eq hsz) | (simp at hsz; simp; omega)) fun h' he => ?_)
    show wpAny _ A.in1 (Builtin.Dict.addKeywords S [] >>= _) _ _ _
    refine wpAny_bind (wpAny_pure (wpAny_pure ?_))
    exact hR h' s.toks (hm.extBut he hSI) fun b o _ hb e => he b o hb e
  | q :: rest, i, acc, ix, t, s, hsz, hln, ht, hit, hl, hm, hR => by
    obtain ⟨b, u, hb, hbS, hbI, htup, hk⟩ := ht 0 q rfl
    rw [List.length_cons] at hsz hln
    refine codeAny_builtin ud_entry ?_
    rw [Around.under_plainId ud_plain _]
    show wpAny _ A.in1 (pyNext (.ref I) >>= _) _ _ s
    refine wpAny_bind (wpAny_pyNext_tuple_item (x := .ref b) hit hl (by simpa using hb) fun h1 hit1 hs1 => ?_)
    have ht1 : IsTup h1 b #[u, q.2] := htup.extBut hs1.extBut hbI
    have hl1 : h1.IsTuple l items := hl.extBut hs1.extBut hlI
    have hm1 : h1.DictOf (mixKind prog w) S acc := hm.extBut hs1.extBut hSI
    obtain ⟨o, ho, hc, n, hd⟩ := id ht1
    show wpAny _ A.in1 (holding [Value.ref b] _ >>= _) _ _ _
    refine wpAny_bind (wpAny_holding ?_)
    refine wpAny_bind (wpAny_tryCatch ?_)
    unfold Builtin.Dict.pairItems
    refine wpAny_bind (wpAny_typeOf (T := "tuple") ⟨o, ho, hc⟩ ?_)
    rw [if_pos (by first | decide | rfl | simp)]
    refine wpAny_bind (wpAny_seqItems ho hd (wpAny_pure ?_))
    show wpAny _ A.in1 (holding [u, q.2] (dictSet S u q.2)) _ _ _
    refine wpAny_holding (wpAny_dictSet_pairs (knd := mixKind prog w) (k := q.1) hk hm1 (fun h2 hm2 hs2 => ?_) (by omega))
    refine wpAny_pure ⟨plainId_quiet ud_plain _, upd_loopT (items := items) hh hlI hSI hSl rest (i + 1) (stored acc q.1 q.2) (ix + 1) 0 _ (show items.size = i + 1 + rest.length by omega) ?_ (fun j q' e => ?_) ?_ ?_ hm2 fun h' tk hd' k => ?_⟩
    · have z := stored_length_le acc q.1 q.2
      omega
    · obtain ⟨b', u', hb', hbS', hbI', htup', hk'⟩ := ht (j + 1) q' (by simpa using e)
      refine ⟨b', u', ?_, hbS', hbI', (htup'.extBut hs1.extBut hbI').extBut hs2.extBut hbS', hk'⟩
      rw [show i + 1 + j = i + (j + 1) by omega]
      exact hb'
    · exact (Heap.IsTupleIter.extBut hit1 hs2.extBut (Ne.symm hSI))
    · exact hl1.extBut hs2.extBut (Ne.symm hSl)
    · exact hR h' tk hd' fun c oc h3 h4 e => k c oc h3 h4 (hs2.extBut c oc h3 (hs1.extBut c oc h4 e))

theorem call_dict_pairsT {s : Shared} {l : Addr} {ol : Obj} {items : Array Value} {n : Nat} {prs : List (Key × Value)} {Q : Value → Shared → Prop} (hh : A.handled = none) (hl : s.heap.get? l = some ol) (hc : ol.cls = .type "tuple") (hd : ol.dict = none)
    (hdat : ol.data = .seq items n) (hsz : items.size = prs.length) (hln : prs.length ≤ sizeLine)
    (ht : ∀ (j : Nat) (q : Key × Value), prs[j]? = some q → ∃ (b : Addr) (u : Value), items[j]? = some (.ref b) ∧ IsTup s.heap b #[u, q.2] ∧ keyIs q.1 u = true)
    (h : ∀ h' tk, h'.DictOf (mixKind prog w) s.heap.objs.size (merged [] prs) → (∀ b o, s.heap.get? b = some o → h'.get? b = some o) → Q (.ref s.heap.objs.size) { s with heap := h', toks := tk }) :
    wpAny (model prog w) A (call (.type "dict") [.ref l]) Q E s := by
  refine callType_codes (Q₁ := fun obj s₁ => obj = .ref s.heap.objs.size ∧ s₁ = { s with heap := s.heap.push { cls := .type "dict", data := .dict #[] } }) PySem.F.kt_called_dict (PySem.F.kt_typeCall_dict_1 _) PySem.F.entry_dict_init (kt_code_dict_new _ ⟨rfl, rfl⟩) ?_
  rintro obj s₁ ⟨rfl, rfl⟩
  have hnew : (s.heap.push { cls := .type "dict", data := .dict #[] }).DictOf (mixKind prog w) s.heap.objs.size [] := Heap.DictOf.new s.heap
  have k0 : ∀ b o, s.heap.get? b = some o → (s.heap.push { cls := .type "dict", data := .dict #[] }).get? b = some o := fun b o e => Heap.get?_push_of_some _ e
  refine ⟨hnew.typeIs, PySem.F.args_dict_init_2 _ _, ?_⟩
  unfold Builtin.«dict.__init__»
  refine wpAny_bind ?_
  unfold Builtin.Dict.selfAndRest
  refine wpAny_bind (wpAny_notOrdered_dict hnew.typeIs ?_)
  show wpAny _ _ (pure (s.heap.objs.size, [Value.ref l])) _ _ _
  refine wpAny_pure ?_
  show wpAny _ _ (Builtin.Dict.updateFrom "dict.__init__" s.heap.objs.size (.ref l) [] .none) _ _ _
  unfold Builtin.Dict.updateFrom
  refine wpAny_bind (wpAny_typeOf (T := "tuple") ⟨ol, k0 _ _ hl, hc⟩ ?_)
  rw [if_pos (by first | decide | rfl | simp)]
  refine wpAny_bind (miss_tuple (k0 _ _ hl) hc hdat hd hh fun h1 tk1 hk1 => ?_)
  rw [if_pos (show (none : Option Value).isNone = true from rfl)]
  refine wpAny_bind (wpAny_rule ?_)
  have hl1 : h1.IsTuple l items := ⟨ol, hk1 _ _ (k0 _ _ hl), hc, n, hdat⟩
  have hS1 : s.heap.objs.size < h1.objs.size := by
    have e : (s.heap.push { cls := .type "dict", data := .dict #[] }).get? s.heap.objs.size = some { cls := .type "dict", data := .dict #[] } := Heap.get?_push_size _ rfl
    exact Heap.lt_size (hk1 _ _ e)
  refine wpAny_bind (wpAny_pyIter_tuple hl1 ?_)
  have k2 : ∀ b o, h1.get? b = some o → (h1.push { cls := .type "tuple_iterator", data := .fields #[.ref l, .int 0 0] }).get? b = some o := fun b o e => Heap.get?_push_of_some _ e
  have hlt : l < s.heap.objs.size := Heap.lt_size hl
  have key := upd_loopT (prog := prog) (w := w) (A := A.in1) (R := wants (fun r s₂ => r = .none ∧ Q (.ref s.heap.objs.size) s₂) E) (S := s.heap.objs.size) (I := h1.objs.size) (l := l) (items := items) (res := Value.none) hh
    (Nat.ne_of_lt (Nat.lt_trans hlt hS1)) (Nat.ne_of_lt hS1) (Nat.ne_of_gt hlt) prs 0 [] 0 0
    { s with heap := h1.push { cls := .type "tuple_iterator", data := .fields #[.ref l, .int 0 0] }, toks := tk1 } (by rw [hsz, Nat.zero_add]) (by rw [List.length_nil, Nat.zero_add]; exact hln)
    (fun j q e => by
      obtain ⟨b, u, e1, e2, e3⟩ := ht j q e
      have hb : b < s.heap.objs.size := e2.lt
      exact ⟨b, u, by rw [Nat.zero_add]; exact e1, Nat.ne_of_lt hb, Nat.ne_of_lt (Nat.lt_trans hb hS1), e2.keeps fun c o z => k2 _ _ (hk1 _ _ (k0 _ _ z)), e3⟩)
    ⟨_, Heap.get?_push_size _ rfl, rfl, rfl⟩ (hl1.push _) ((hnew.at fun o e => hk1 _ _ e).at fun o e => k2 _ _ e)
    (fun h' tk hd' k => ⟨rfl, h h' tk hd' fun b o e => k b o (Nat.ne_of_lt (Heap.lt_size e)) (Nat.ne_of_lt (Nat.lt_trans (Heap.lt_size e) hS1)) (k2 _ _ (hk1 _ _ (k0 _ _ e)))⟩)
  first
    | exact wpAny_pure ⟨plainId_quiet ud_plain _, key⟩
    | exact wpAny_bind (wpAny_pure (wpAny_pure ⟨plainId_quiet ud_plain _, key⟩))
end
end DL
namespace DL
open PySem PySem.Spec L2 C8 PyProof.Rows
section
variable {X : Cx}
def rDictP : List V → Hp → VK → Prop := fun xs H Q => ∃ (a : Addr) (ob : Obj) (ps : List Addr) (kvs : List (Key × V)), xs = [.ref a] ∧ H a = some (.frz ob (.tup (ps.map V.ref))) ∧ ob.dict = none ∧ Paired (fun p kv => SqT X.K H p [kV kv.1, kv.2]) ps kvs ∧
    ∀ p, H p = none → Q (.ref p) (upd H p (.dK (mergeK [] kvs)))
theorem cr_dictP (hcalm : X.calm = true) : CallR X (.type "dict") (rDictP (X := X)) := by
  intro pins s σ H xs us Q I r q
  obtain ⟨a, ob, ps, kvs, ex, hq, hd, hp, q⟩ := q
  subst ex
  obtain ⟨u, eu, rx⟩ := vals1 r
  subst eu
  cases rx
  obtain ⟨hob, hz, its, rv, ot, hot, hc, n, hdat⟩ := (show ObjOk X.prog X.w H s.heap a (.frz ob (.tup (ps.map V.ref))) from I.hok a _ hq)
  rw [hob] at hot
  cases hot
  have ei := refs_at rv
  subst ei
  rw [List.length_map] at hz
  obtain ⟨prs, rel, hl, hpr⟩ := pairs_of I hp
  refine call_dict_pairsT (prs := prs) (I.ok.hd hcalm) hob hc hd hdat (by simp [hl]) (by rw [hl]; exact hz) (fun j q' e => ?_) fun h' tk hd' k => ?_
  · obtain ⟨b, u, e1, e2, e3⟩ := hpr j q' e
    exact ⟨b, u, by simp [e1], e2, e3⟩
  · have hm : (s.heap.objs.size == sysModules) = false := beq_eq_false_iff_ne.mpr (Nat.ne_of_gt I.big)
    have hlen : (mergeK [] kvs).length ≤ sizeLine := by
      refine Nat.le_trans (length_mergeK kvs []) ?_
      rw [List.length_nil, Nat.zero_add, rel.length, hl]
      exact hz
    exact ⟨.ref s.heap.objs.size, upd H s.heap.objs.size (.dK (mergeK [] kvs)), I.laid (t' := tk) k (Nat.le_refl _) (show ObjOk X.prog X.w _ _ _ (.dK (mergeK [] kvs)) from ⟨hlen, hm, merged [] prs, KV.merge rel .nil, hd'⟩), rfl, q _ (I.hok.fresh (Nat.le_refl _))⟩
/-- tuple(l), l a list: a tuple whose object is known -/
theorem cr_tupP : CallR X (.type "tuple") (fun xs H Q => ∃ (p : Addr) (ys : List V), xs = [.ref p] ∧ SqL X.K H p ys ∧ ∀ q ob, H q = none → ob.dict = none → Q (.ref q) (upd H q (.frz ob (.tup ys)))) := by
  intro pins s σ H xs us Q I r q
  obtain ⟨p, ys, rfl, hs, q⟩ := q
  rw [Vals.ref1 r]
  obtain ⟨its, rv, pl, hz⟩ := I.list hs
  refine call_tuple_list pl.isList (fun h' hk => ?_) (by rw [List.size_toArray, ← rv.length]; exact hz)
  have I1 : Inv X pins σ H { s with heap := h' } := I.kept (t' := s.toks) hk
  have I2 : Inv X pins σ (upd H h'.objs.size (.frz { cls := .type "tuple", data := .seq its.toArray } (.tup ys))) { s with heap := h'.push { cls := .type "tuple", data := .seq its.toArray } } :=
    I1.laid (t' := s.toks) (fun b o e => Heap.get?_push_of_some _ e) (Nat.le_refl _) (show ObjOk X.prog X.w _ _ _ (.frz _ (.tup ys)) from ⟨Heap.get?_push_size _ rfl, hz, its, rv, IsTup.new _ _⟩)
  exact ⟨.ref h'.objs.size, _, I2, rfl, q _ _ (I1.hok.fresh (Nat.le_refl _)) rfl⟩
def dTupP (ds : List D) (h : AH) (Q : KD) : Prop := ∃ x xs, ds = [x] ∧ lstOf h x = some xs ∧ Q (.tpl xs) h
theorem dTupP_ok : CaD X (.type "tuple") dTupP where
  ex := ⟨_, cr_tupP, fun {F h H ds vs Q} S r q => by
    obtain ⟨x, xs, rfl, e, q⟩ := q
    obtain ⟨v, rfl, r1⟩ := r.one
    obtain ⟨a, us, rfl, ha, rs⟩ := S.lstOf r1 e
    refine ⟨a, us, rfl, .of ha, fun p ob hp hd => ?_⟩
    obtain ⟨f, g⟩ := S.free hp
    exact q _ _ _ (ext_upd f) (S.newF hp _) (.tpl upd_same hd (rs.ext (ext_upd f)))⟩
  mo := fun {ds h Q Q'} hq ⟨x, xs, e, e2, q⟩ => ⟨x, xs, e, e2, hq _ _ q⟩
/-- the dict of pairs, later ones win -/
def mergeD (es : List (Key × D)) : List (Key × D) := es.foldl (fun acc e => putD acc e.1 e.2) []
theorem repk_merge {K : PySem.W.Frag} {F : Hp} : ∀ {es : List (Key × D)} {vs : List (Key × V)} {acc : List (Key × D)} {av : List (Key × V)}, RepK K F acc av → RepK K F es vs → RepK K F (es.foldl (fun acc e => putD acc e.1 e.2) acc) (mergeK av vs)
  | _, _, _, _, r, .nil => r
  | _, _, acc, av, r, .cons h t => by
    show RepK K F (List.foldl _ (putD acc _ _) _) (mergeK (putK av _ _) _)
    exact repk_merge (r.put _ h) t
def pairKD (e : Key × D) : D := .tup [kD e.1, e.2]
def dDictP (m : Bool) (ds : List D) (h : AH) (Q : KD) : Prop := ∃ es : List (Key × D), ds = [.tpl (es.map pairKD)] ∧ if m = true then ∀ p, h p = none → Q (.ref p) (up h p (.dK (mergeD es))) else Q (.dK (mergeD es)) h
theorem pairs_rep {K : PySem.W.Frag} {F : Hp} : ∀ (es : List (Key × D)) (us : List V), Reps K F (es.map pairKD) us → ∃ (ps : List Addr) (kvs : List (Key × V)), us = ps.map V.ref ∧ RepK K F es kvs ∧ Paired (fun p kv => SqT K F p [kV kv.1, kv.2]) ps kvs
  | [], _, .nil => ⟨[], [], rfl, .nil, .nil⟩
  | e :: es, _, .cons h t => by
    obtain ⟨ps, kvs, rfl, r, p⟩ := pairs_rep es _ t
    cases h with
    | @tup a _ vs hs rs =>
      cases rs with
      | cons r1 r2 =>
        cases r2 with
        | cons r2 r3 =>
          cases r3
          have ev : ∀ {k : Key} {v : V}, Rep K F (kD k) v → v = kV k := fun {k v} r => by cases k <;> (cases r; rfl)
          rw [ev r1] at hs
          exact ⟨a :: ps, (e.1, _) :: kvs, rfl, .cons r2 r, .cons hs p⟩
theorem Paired.imp {α β : Type} {F G : α → β → Prop} (h : ∀ a b, F a b → G a b) : ∀ {xs : List α} {ys : List β}, Paired F xs ys → Paired G xs ys
  | _, _, .nil => .nil
  | _, _, .cons p t => .cons (h _ _ p) (Paired.imp h t)
theorem dDictP_ok {m : Bool} (hc : X.calm = true) : CaD X (.type "dict") (dDictP m) where
  ex := ⟨_, cr_dictP hc, fun {F h H ds vs Q} S r q => by
    obtain ⟨es, rfl, q⟩ := q
    obtain ⟨v, rfl, r1⟩ := r.one
    cases r1 with
    | @tpl a ob xs us hf hd rs =>
      obtain ⟨ps, kvs, rfl, rk, pr⟩ := pairs_rep es _ rs
      refine ⟨a, ob, ps, kvs, rfl, S.fz _ _ hf, hd, Paired.imp (fun _ _ z => sqt_of S.fz z) pr, fun p hp => ?_⟩
      obtain ⟨f, g⟩ := S.free hp
      have rm := repk_merge (acc := []) .nil rk
      cases m with
      | true =>
        rw [if_pos rfl] at q
        exact q p g F _ _ (.refl F) (S.newM hp ⟨_, rfl, rm⟩) (.ref p)
      | false =>
        rw [if_neg (by decide)] at q
        exact q _ _ _ (ext_upd f) (S.newF hp _) (.dK upd_same (rm.ext (ext_upd f)))⟩
  mo := fun {ds h Q Q'} hq ⟨es, e, q⟩ => ⟨es, e, by
    split at q
    · rename_i c; rw [if_pos c]; exact fun p hp => hq _ _ (q p hp)
    · rename_i c; rw [if_neg c]; exact hq _ _ q⟩
end
end DL
namespace DL
open PySem PySem.Spec L2 C8
/-! ### a dict written out; an empty one that does not change -/
section
variable {X : Cx} {E : XK} {pos : Pos}
def wDnewF : WE := fun _ h Q _ => Q (.dK []) h
theorem ae_dnewF : AE X E (.Dict [] [] pos) wDnewF := by
  refine ⟨PE.imp pe_dnewK fun σ H Q ⟨F, ρ, h, S, R, q⟩ => ?_, fun ρ h Q Q' X X' hq _ q => hq _ _ q⟩
  intro p hp
  obtain ⟨f, g⟩ := S.free hp
  exact q _ _ _ (ext_upd f) (S.newF hp (.dK [])) (.dK upd_same .nil)
def wPairs : List (WE × WE) → EnvD → AH → (List (D × D) → AH → Prop) → KX → Prop
  | [], _, h, Q, _ => Q [] h
  | p :: r, ρ, h, Q, X => p.1 ρ h (fun x h1 => p.2 ρ h1 (fun y h2 => wPairs r ρ h2 (fun ps h3 => Q ((x, y) :: ps) h3) X) X) X
def wDisp (ps : List (WE × WE)) : WE := fun ρ h Q X => ∀ p, h p = none → wPairs ps ρ (up h p (.dK [])) (fun ps h2 => h2 p = some (.dK []) ∧ ∃ kvs : List (Key × D), ps = kvs.map (fun kv => (kD kv.1, kv.2)) ∧ kvs.length ≤ 15 ∧ Q (.ref p) (up h2 p (.dK (mergeD kvs)))) X
inductive RepPs (K : PySem.W.Frag) (F : Hp) : List (D × D) → List (V × V) → Prop where
  | nil : RepPs K F [] []
  | cons {x y : D} {v u : V} {ps : List (D × D)} {qs : List (V × V)} (h1 : Rep K F x v) (h2 : Rep K F y u) (t : RepPs K F ps qs) : RepPs K F ((x, y) :: ps) ((v, u) :: qs)
def MoP (ps : List (WE × WE)) : Prop := ∀ ρ h Q Q' X X', (∀ d h, Q d h → Q' d h) → (∀ x h, X x h → X' x h) → wPairs ps ρ h Q X → wPairs ps ρ h Q' X'
structure APs (X : Cx) (E : XK) (pos : Pos) (keys : List (Option Expr)) (values : List Expr) (ps : List (WE × WE)) : Prop where
  run : PPs X pos keys values (ps.map fun p => (tE X.K E p.1, tE X.K E p.2))
  mo : ∀ p ∈ ps, MoE p.1 ∧ MoE p.2
theorem aps_nil : APs X E pos [] [] [] := ⟨pps_nil, fun _ h => by cases h⟩
theorem aps_cons {k v : Expr} {ks : List (Option Expr)} {vs : List Expr} {wk wv : WE} {ps : List (WE × WE)} (hk : AE X E k wk) (hv : AE X E v wv) (hr : APs X E pos ks vs ps) : APs X E pos (some k :: ks) (v :: vs) ((wk, wv) :: ps) :=
  ⟨pps_cons hk.run hv.run hr.run, fun p h => by
    rcases List.mem_cons.mp h with rfl | h
    · exact ⟨hk.mo, hv.mo⟩
    · exact hr.mo p h⟩
theorem pairs_mo : ∀ {ps : List (WE × WE)}, (∀ p ∈ ps, MoE p.1 ∧ MoE p.2) → MoP ps
  | [], _, _, _, _, _, _, _, hq, _, q => hq _ _ q
  | p :: r, h, ρ, h0, Q, Q', X, X', hq, hx, q => by
    have hp := h p (List.mem_cons_self ..)
    exact hp.1 _ _ _ _ _ _ (fun x h1 q => hp.2 _ _ _ _ _ _ (fun y h2 q => pairs_mo (fun z hz => h z (List.mem_cons_of_mem _ hz)) _ _ _ _ _ _ (fun _ _ z => hq _ _ z) hx q) hx q) hx q
theorem pairs_to : ∀ {ps : List (WE × WE)}, (∀ p ∈ ps, MoE p.1 ∧ MoE p.2) → ∀ {F : Hp} {ρ : EnvD} {h : AH} {σ : L2.St} {H : Hp} {Q : List (D × D) → AH → Prop} {Qv : List (V × V) → Hp → Prop}, Sim X.K F h H → EnvR X.K F ρ σ → wPairs ps ρ h Q (LX X.K F E) →
    (∀ F' h' H' ds vs, Ext F F' → Sim X.K F' h' H' → RepPs X.K F' ds vs → Q ds h' → Qv vs H') → tPairs (ps.map fun p => (tE X.K E p.1, tE X.K E p.2)) σ H Qv
  | [], _, F, ρ, h, σ, H, Q, Qv, S, R, q, k => k _ _ _ _ _ (.refl F) S .nil q
  | p :: r, hm, F, ρ, h, σ, H, Q, Qv, S, R, q, k => by
    have hp := hm p (List.mem_cons_self ..)
    have hr : ∀ z ∈ r, MoE z.1 ∧ MoE z.2 := fun z hz => hm z (List.mem_cons_of_mem _ hz)
    refine ⟨F, ρ, h, S, R, hp.1 _ _ _ _ _ _ (fun x h1 z => ?_) (fun _ _ z => z) q⟩
    intro F1 H1 v e1 S1 r1
    refine ⟨F1, ρ, h1, S1, R.ext e1, hp.2 _ _ _ _ _ _ (fun y h2 z => ?_) (fun _ _ z => LX.ext e1 z) z⟩
    intro F2 H2 u e2 S2 r2
    refine pairs_to hr S2 (R.ext (e1.trans e2)) (pairs_mo hr _ _ _ _ _ _ (fun _ _ z => z) (fun _ _ z => LX.ext (e1.trans e2) z) z) fun F3 h3 H3 ds vs e3 S3 rs q3 => ?_
    exact k F3 h3 H3 _ _ ((e1.trans e2).trans e3) S3 (.cons (r1.ext (e2.trans e3)) (r2.ext e3) rs) q3
theorem repps_keys {K : PySem.W.Frag} {F : Hp} : ∀ {kvs : List (Key × D)} {qs : List (V × V)}, RepPs K F (kvs.map fun kv => (kD kv.1, kv.2)) qs → ∃ vs : List (Key × V), qs = vs.map (fun kv => (kV kv.1, kv.2)) ∧ RepK K F kvs vs
  | [], _, r => by cases r; exact ⟨[], rfl, .nil⟩
  | (k, d) :: kvs, _, r => by
    cases r with
    | @cons x y v u ps qs h1 h2 t =>
      obtain ⟨vs, e, rk⟩ := repps_keys t
      refine ⟨(k, u) :: vs, ?_, .cons h2 rk⟩
      cases k with
      | inl i => cases h1; rw [List.map_cons, e]; rfl
      | inr s => cases h1; rw [List.map_cons, e]; rfl
theorem RepK.len {K : PySem.W.Frag} {F : Hp} {kvs : List (Key × D)} {vs : List (Key × V)} (r : RepK K F kvs vs) : kvs.length = vs.length := by
  induction kvs generalizing vs with
  | nil => cases r; rfl
  | cons x xs ih => cases r with | cons h t => rw [List.length_cons, List.length_cons, ih t]
theorem ae_disp {keys : List (Option Expr)} {values : List Expr} {ps : List (WE × WE)} (h : APs X E pos keys values ps) (hall : keys.all (·.isSome) = true := by rfl) (hl : keys.length = values.length := by rfl) (h0 : keys ≠ [] := by simp)
    (h15 : keys.length ≤ 15 := by decide) : AE X E (.Dict keys values pos) (wDisp ps) := by
  refine ⟨PE.imp (pe_disp h.run hall hl h0 h15) fun σ H Q ⟨F, ρ, g, S, R, q⟩ => ?_, fun ρ g Q Q' X X' hq hx q p hp => pairs_mo h.mo _ _ _ _ _ _ (fun ds h2 ⟨e, kvs, e1, l, z⟩ => ⟨e, kvs, e1, l, hq _ _ z⟩) hx (q p hp)⟩
  intro p hp
  obtain ⟨f, gg⟩ := S.free hp
  refine pairs_to h.mo (S.newM hp (o := .dK []) ⟨[], rfl, .nil⟩) R (q p gg) fun F' h' H' ds vs e S' rs ⟨e1, kvs, ed, lk, z⟩ => ?_
  subst ed
  obtain ⟨ws, ew, rk⟩ := repps_keys rs
  subst ew
  obtain ⟨_, u, hu, us, rfl, ru⟩ := S'.ob _ _ e1
  cases ru
  refine ⟨hu, ws, rfl, by rw [← RepK.len rk]; exact lk, z _ _ _ e (S'.put e1 (o := .dK (mergeD kvs)) ⟨_, rfl, repk_merge .nil rk⟩) (.ref p)⟩
end
end DL
namespace DL
open PySem PySem.Spec L2 C8
/-! ### repr of data within which empty dicts may stand -/
mutual
def pq : D → PyData
  | .non => .none
  | .bl b => .bool b
  | .int i => .int i
  | .str s => .str s
  | .tup xs => .tuple (pqs xs)
  | .tpl xs => .tuple (pqs xs)
  | .lst xs => .list (pqs xs)
  | .ref _ => .none
  | .ty _ => .none
  | .lk _ => .none
  | .ob _ _ => .none
  | .dK _ => .dict []
  | .dT _ => .none
def pqs : List D → List PyData
  | [] => []
  | x :: xs => pq x :: pqs xs
end
mutual
def dq : D → Bool
  | .non => true
  | .bl _ => true
  | .int _ => true
  | .str _ => true
  | .tup xs => dqs xs
  | .tpl xs => dqs xs
  | .lst xs => dqs xs
  | .ref _ => false
  | .ty _ => false
  | .lk _ => false
  | .ob _ _ => false
  | .dK kvs => kvs.isEmpty
  | .dT _ => false
def dqs : List D → Bool
  | [] => true
  | x :: xs => dq x && dqs xs
end
mutual
inductive Dq (K : PySem.W.Frag) (H : Hp) : V → PyData → Prop
  | non : Dq K H .non .none
  | bl (b : Bool) : Dq K H (.bl b) (.bool b)
  | int (i : Int) : Dq K H (.int i) (.int i)
  | str (x : Str) : Dq K H (.str x) (.str x)
  | lst {a : Addr} {xs : List V} {ds : List PyData} : H a = some (.lst xs) → DqAll K H xs ds → Dq K H (.ref a) (.list ds)
  | tup {a : Addr} {xs : List V} {ds : List PyData} : SqT K H a xs → DqAll K H xs ds → Dq K H (.ref a) (.tuple ds)
  | dic {a : Addr} : H a = some (.dK []) → Dq K H (.ref a) (.dict [])
inductive DqAll (K : PySem.W.Frag) (H : Hp) : List V → List PyData → Prop
  | nil : DqAll K H [] []
  | cons {v : V} {vs : List V} {d : PyData} {ds : List PyData} : Dq K H v d → DqAll K H vs ds → DqAll K H (v :: vs) (d :: ds)
end
section
variable {K : PySem.W.Frag} {F H : Hp}
mutual
theorem Rep.dq (e : ∀ a o, F a = some o → H a = some o) : ∀ {d : D} {v : V}, Rep K F d v → DL.dq d = true → Dq K H v (pq d)
  | _, _, .non, _ => by rw [pq]; exact .non
  | _, _, .bl b, _ => by rw [pq]; exact .bl b
  | _, _, .int i, _ => by rw [pq]; exact .int i
  | _, _, .str s, _ => by rw [pq]; exact .str s
  | _, _, .ref _, q => by rw [DL.dq] at q; cases q
  | _, _, .ty _, q => by rw [DL.dq] at q; cases q
  | _, _, .lk _ _, q => by rw [DL.dq] at q; cases q
  | _, _, .ob _ _, q => by rw [DL.dq] at q; cases q
  | _, _, .dT _ _, q => by rw [DL.dq] at q; cases q
  | _, _, .tup h r, q => by rw [DL.dq] at q; rw [pq]; exact .tup (sqt_of e h) (Reps.dq e r q)
  | _, _, .tpl h hd r, q => by rw [DL.dq] at q; rw [pq]; exact .tup (sqt_of e (.inl (.inr ⟨_, h⟩))) (Reps.dq e r q)
  | _, _, .lst h r, q => by rw [DL.dq] at q; rw [pq]; exact .lst (e _ _ h) (Reps.dq e r q)
  | .dK [], _, .dK h .nil, q => by rw [pq]; exact .dic (e _ _ h)
  | .dK (_ :: _), _, .dK h r, q => by rw [DL.dq] at q; cases q
theorem Reps.dq (e : ∀ a o, F a = some o → H a = some o) : ∀ {ds : List D} {vs : List V}, Reps K F ds vs → dqs ds = true → DqAll K H vs (pqs ds)
  | _, _, .nil, _ => by rw [pqs]; exact .nil
  | _, _, .cons r t, q => by
    rw [dqs, Bool.and_eq_true] at q
    rw [pqs]
    exact .cons (Rep.dq e r q.1) (Reps.dq e t q.2)
end
end
section
variable {X : Cx} {pins : List (Addr × Obj)} {σ : L2.St} {H : Hp} {s : Shared}
theorem dic_at (I : Inv X pins σ H s) {a : Addr} (h1 : H a = some (.dK [])) : (a == sysModules) = false ∧ ∃ o ep, s.heap.get? a = some o ∧ o.cls = .type "dict" ∧ o.data = .dict #[] ep := by
  obtain ⟨_, hm, vs, kv, ⟨o, es, ep, ho, hx, hd, _, hp, _⟩⟩ := dk_of I.hok h1
  cases kv
  have le := Pairs.length hp
  have ee : es.toList = [] := List.length_eq_zero_iff.mp (by rw [le]; rfl)
  obtain ⟨l⟩ := es
  have ee : l = [] := ee
  subst ee
  exact ⟨hm, o, ep, ho, hx.1, hd⟩
mutual
theorem Dq.rk (I : Inv X pins σ H s) : ∀ (d : PyData) (v : V) (u : Value), Dq X.K H v d → RelV v u → d.showable = true → d.shown.length ≤ sizeLine →
    ∃ as bs, Reads s.heap u d as ∧ ReadAtMost s.heap d.depth bs ∧ ReprK X.prog X.w bs s.heap d.depth u d.shown
  | .none, _, _, h, r, _, _ => by
    cases h
    cases r
    exact ⟨_, [], Reads.none, (fun _ h => nomatch h), by simp only [PyData.shown]; exact .of_is ReprIs.none _ _ _⟩
  | .bool b, _, _, h, r, _, _ => by
    cases h
    cases r
    exact ⟨_, [], Reads.bool b, (fun _ h => nomatch h), by simp only [PyData.shown]; exact .of_is (ReprIs.bool b) _ _ _⟩
  | .int i, _, _, h, r, hs, _ => by
    cases h
    obtain ⟨t, rfl⟩ := r
    exact ⟨_, [], Reads.int i t, (fun _ h => nomatch h), by simp only [PyData.shown]; exact .of_is (ReprIs.int t (by simpa [PyData.showable] using hs)) _ _ _⟩
  | .str x, _, _, h, r, _, hz => by
    cases h
    obtain ⟨t, rfl⟩ := r
    exact ⟨_, [], Reads.str x t, (fun _ h => nomatch h), by simp only [PyData.shown]; exact .of_is (ReprIs.str x t (by simpa only [PyData.shown] using hz)) _ _ _⟩
  | .list ds, _, _, h, r, hs, hz => by
    cases h with
    | @lst a xs _ h1 ha =>
      cases r
      obtain ⟨its, rv, ⟨o, n, ho, hc, _, hd⟩, _⟩ := I.list (.of h1)
      have hz' : (listText (PyData.shownAll ds)).length ≤ sizeLine := by simpa only [PyData.shown] using hz
      obtain ⟨as, bs, hr, hb, hk⟩ := Dq.rkAll I ds _ its ha rv (by simpa [PyData.showable] using hs) (fun t ht => Nat.le_trans (listText_mem_le ht) hz')
      have r : Reads s.heap (.ref a) (.list ds) _ := .list ho hc hd hr
      have hna : a ∉ bs := not_mem_of_deeper r (by simp only [PyData.depth]; omega) hb
      refine ⟨_, a :: bs, r, ReadAtMost.cons r (by simp only [PyData.depth]; omega) hb, ?_⟩
      simp only [PyData.depth, PyData.shown]
      cases its with
      | nil =>
        cases hr
        simp only [PyData.shownAll, listText_nil]
        exact ReprK.listEmpty ho hc hd
      | cons x l => exact ReprK.list ho hc hd hna (by simpa using hk.length_eq) (fun i y e => hk.item i y (by simpa using e))
  | .tuple ds, _, _, h, r, hs, hz => by
    cases h with
    | @tup a xs _ h1 ha =>
      cases r
      obtain ⟨its, rv, ⟨o, ho, hc, n, hd⟩, _⟩ := I.tuple h1
      have hz' : (tupleText (PyData.shownAll ds)).length ≤ sizeLine := by simpa only [PyData.shown] using hz
      obtain ⟨as, bs, hr, hb, hk⟩ := Dq.rkAll I ds _ its ha rv (by simpa [PyData.showable] using hs) (fun t ht => Nat.le_trans (tupleText_mem_le ht) hz')
      have r : Reads s.heap (.ref a) (.tuple ds) _ := .tuple ho hc hd hr
      have hna : a ∉ bs := not_mem_of_deeper r (by simp only [PyData.depth]; omega) hb
      refine ⟨_, a :: bs, r, ReadAtMost.cons r (by simp only [PyData.depth]; omega) hb, ?_⟩
      simp only [PyData.depth, PyData.shown]
      exact ReprK.tuple ho hc hd hna hk
  | .dict _, _, _, h, r, _, _ => by
    cases h with
    | @dic a h1 =>
      cases r
      obtain ⟨hm, o, ep, ho, hc, hd⟩ := dic_at I h1
      have r : Reads s.heap (.ref a) (.dict []) _ := .dict (as := []) (bs := []) (kvs := []) ho hc hd .nil .nil
      refine ⟨_, [a], r, ReadAtMost.cons r (Nat.le_refl _) (fun _ h => nomatch h), ?_⟩
      exact ReprK.dict (as := []) ho hc hd hm (fun h => nomatch h) .nil
theorem Dq.rkAll (I : Inv X pins σ H s) : ∀ (ds : List PyData) (vs : List V) (us : List Value), DqAll X.K H vs ds → Vals vs us → PyData.showableAll ds = true → (∀ t ∈ PyData.shownAll ds, t.length ≤ sizeLine) →
    ∃ as bs, ReadsAll s.heap us ds as ∧ ReadAtMost s.heap (PyData.depthAll ds) bs ∧ ReprAllK X.prog X.w bs s.heap (PyData.depthAll ds) us (PyData.shownAll ds)
  | [], _, _, h, r, _, _ => by
    cases h
    cases r
    exact ⟨_, [], ReadsAll.nil, (fun _ h => nomatch h), by simp only [PyData.shownAll]; exact .nil⟩
  | d :: ds, _, _, h, r, hs, hz => by
    cases h with
    | cons h1 h2 =>
      cases r with
      | cons r1 r2 =>
        have hs' : d.showable = true ∧ PyData.showableAll ds = true := by simpa [PyData.showableAll] using hs
        obtain ⟨as, b1, q1, hb1, k1⟩ := Dq.rk I d _ _ h1 r1 hs'.1 (hz _ (by simp only [PyData.shownAll]; exact List.mem_cons_self ..))
        obtain ⟨cs, b2, q2, hb2, k2⟩ := Dq.rkAll I ds _ _ h2 r2 hs'.2 (fun t ht => hz t (by simp only [PyData.shownAll]; exact List.mem_cons_of_mem _ ht))
        refine ⟨_, b1 ++ b2, ReadsAll.cons q1 q2, ?_, ?_⟩
        · intro b hm
          simp only [PyData.depthAll]
          rcases List.mem_append.mp hm with hm | hm
          · obtain ⟨d', as', r', hd'⟩ := hb1 b hm
            exact ⟨d', as', r', Nat.le_trans hd' (Nat.le_max_left _ _)⟩
          · obtain ⟨d', as', r', hd'⟩ := hb2 b hm
            exact ⟨d', as', r', Nat.le_trans hd' (Nat.le_max_right _ _)⟩
        · simp only [PyData.depthAll, PyData.shownAll]
          exact .cons ((k1.more fun b hb => List.mem_append_left _ hb).level_le (Nat.le_max_left _ _)) (k2.more_le (fun b hb => List.mem_append_right _ hb) (Nat.le_max_right _ _))
end
theorem Dq.shows (I : Inv X pins σ H s) {d : PyData} {a : Addr} (h : Dq X.K H (.ref a) d) (hs : d.showable = true) (hsz : d.shown.length ≤ sizeLine) : ∃ T idr, ShowsBy X.prog X.w s.heap a d T idr := by
  cases h with
  | @lst _ xs ds h1 ha =>
    obtain ⟨its, rv, ⟨o, n, ho, hc, _, hd⟩, _⟩ := I.list (.of h1)
    have hz' : (listText (PyData.shownAll ds)).length ≤ sizeLine := by simpa only [PyData.shown] using hsz
    obtain ⟨as, bs, hr, hb, hk⟩ := Dq.rkAll I ds _ its ha rv (by simpa [PyData.showable] using hs) (fun t ht => Nat.le_trans (listText_mem_le ht) hz')
    have hna : a ∉ bs := not_mem_of_deeper (.list ho hc hd hr) (by simp only [PyData.depth]; omega) hb
    refine ⟨"list", "list.__repr__", F.slot_list_repr.toG, F.slot_list_str, F.slot_list_format, fun s' hk0 => ⟨o, hk0 _ _ ho, hc⟩, fun A E s' Q hg hu hk0 hQ => ?_⟩
    simp only [PyData.depth] at hu
    simp only [PyData.shown] at hQ
    cases its with
    | nil =>
      cases hr
      simp only [PyData.shownAll, listText_nil] at hQ
      exact call_list_repr_empty ⟨o, hk0 _ _ ho, hc⟩ (hk0 _ _ ho) hd (hQ s'.heap _ _ fun _ _ e => e)
    | cons x l => exact call_list_reprK ho hc hd hna (by simpa using hk.length_eq) (fun i y e => hk.item i y (by simpa using e)) hg (fun b _ => Clear.nil b) hu hk0 hQ hz'
  | @tup _ xs ds h1 ha =>
    obtain ⟨its, rv, ⟨o, ho, hc, n, hd⟩, _⟩ := I.tuple h1
    have hz' : (tupleText (PyData.shownAll ds)).length ≤ sizeLine := by simpa only [PyData.shown] using hsz
    obtain ⟨as, bs, hr, hb, hk⟩ := Dq.rkAll I ds _ its ha rv (by simpa [PyData.showable] using hs) (fun t ht => Nat.le_trans (tupleText_mem_le ht) hz')
    have hna : a ∉ bs := not_mem_of_deeper (.tuple ho hc hd hr) (by simp only [PyData.depth]; omega) hb
    refine ⟨"tuple", "tuple.__repr__", F.slot_tuple_repr, F.slot_tuple_str, F.slot_tuple_format, fun s' hk0 => ⟨o, hk0 _ _ ho, hc⟩, fun A E s' Q hg hu hk0 hQ => ?_⟩
    simp only [PyData.depth] at hu
    simp only [PyData.shown] at hQ
    exact call_tuple_reprK ho hc hd hna hk hg (fun b _ => Clear.nil b) hu hk0 hQ hz'
  | dic h1 =>
    obtain ⟨hm, o, ep, ho, hc, hd⟩ := dic_at I h1
    refine ⟨"dict", "dict.__repr__", F.slot_dict_repr, F.slot_dict_str, F.slot_dict_format, fun s' hk0 => ⟨o, hk0 _ _ ho, hc⟩, fun A E s' Q hg hu hk0 hQ => ?_⟩
    simp only [PyData.depth] at hu
    simp only [PyData.shown] at hQ
    exact call_dict_reprK (as := []) ho hc hd hm (fun h => nomatch h) .nil hg (fun b _ => Clear.nil b) hu hk0 hQ hsz
theorem call_reprQ (hg : X.A.guards = some []) (hu : X.A.units + 64 < cLine) : CallR X (.builtin "repr") (fun vs H Q => ∃ x d, vs = [x] ∧ Dq X.K H x d ∧ d.showable = true ∧ d.depth ≤ 60 ∧ d.shown.length ≤ sizeLine ∧ Q (.str d.shown) H) := by
  intro pins s σ H xs us Q I r h
  obtain ⟨x, d, rfl, hd, hs, dp, hz, q⟩ := h
  obtain ⟨u, rfl, rx⟩ : ∃ u, us = [u] ∧ RelV x u := by cases r with | cons r t => cases t; exact ⟨_, rfl, r⟩
  have refs : ∀ {a : Addr}, Dq X.K H (.ref a) d → wpAny (model X.prog X.w) X.A (call (.builtin "repr") [.ref a]) (EP X pins σ Q) X.xe s := fun {a} hd => by
    obtain ⟨T, idr, S⟩ := Dq.shows I hd hs hz
    exact call_repr_slot (by omega) (S.typeIs s fun _ _ z => z) S.slotRepr (S.call X.A.in1 X.xe s _ hg (by show X.A.units + 1 + d.depth < cLine; omega) (fun _ _ z => z) fun h' u tk hk => ⟨_, _, rfl, ⟨.str _, H, I.kept hk, ⟨_, rfl⟩, q⟩⟩)
  cases hd with
  | non => cases rx; exact PySem.P.repr_of_none ⟨.str _, H, I.tok _, ⟨_, rfl⟩, by rw [PyData.shown] at q; exact q⟩
  | bl b => cases rx; exact PySem.P.repr_of_bool ⟨.str _, H, I.tok _, ⟨_, rfl⟩, by rw [PyData.shown] at q; exact q⟩
  | int i =>
    obtain ⟨t, rfl⟩ := rx
    refine PySem.P.repr_of_int (by rw [PyData.showable] at hs; exact of_decide_eq_true hs) ⟨.str _, H, I.tok _, ⟨_, rfl⟩, by rw [PyData.shown] at q; exact q⟩
  | str x =>
    obtain ⟨t, rfl⟩ := rx
    exact PySem.P.repr_of_str ⟨.str _, H, I.tok _, ⟨_, rfl⟩, by rw [PyData.shown] at q; exact q⟩ (by rw [PyData.shown] at hz; exact hz)
  | lst h1 h2 => cases rx; exact refs (.lst h1 h2)
  | tup h1 h2 => cases rx; exact refs (.tup h1 h2)
  | dic h1 => cases rx; exact refs (.dic h1)
def dReprQ (ds : List D) (h : AH) (Q : KD) : Prop := ∃ x, ds = [x] ∧ dq x = true ∧ (pq x).showable = true ∧ (pq x).depth ≤ 60 ∧ (pq x).shown.length ≤ sizeLine ∧ Q (.str (pq x).shown) h
theorem dReprQ_ok (hg : X.A.guards = some []) (hu : X.A.units + 64 < cLine) : CaD X (.builtin "repr") dReprQ where
  ex := ⟨_, call_reprQ hg hu, fun {F h H ds vs Q} S r q => by
    obtain ⟨x, rfl, e1, e2, e3, e4, q⟩ := q
    obtain ⟨v, rfl, r1⟩ := r.one
    exact ⟨v, _, rfl, Rep.dq S.fz r1 e1, e2, e3, e4, q.at S (.str _)⟩⟩
  mo := fun {ds h Q Q'} hq ⟨x, e, e1, e2, e3, e4, q⟩ => ⟨x, e, e1, e2, e3, e4, hq _ _ q⟩
end
end DL
namespace PySem.W
open PySem PySem.Spec PySem.Calls PyProof.Rows
section
variable {prog : Program} {w : World} {A : Around} {E : Value → Shared → Prop} {s : Shared}
theorem rc_lens {l b : Addr} {items items2 : Array Value} {Q : Value → Shared → Prop} (hl : s.heap.IsList l items) (hb : s.heap.IsList b items2) (hsz : items.size ≠ items2.size) (hu : A.units < cLine)
    (h : Q (.bool false) s) : wpAny (model prog w) A (richCompare .Eq (.ref l) (.ref b)) Q E s := by
  obtain ⟨⟨cls, dd, data, sl⟩, ho, hc, n, hd⟩ := id hl
  obtain ⟨⟨cls2, dd2, data2, sl2⟩, ho2, hc2, n2, hd2⟩ := id hb
  simp only at hc hd hc2 hd2
  subst hc hd hc2 hd2
  exact wpAny_richCompare_same_room (T := "list") (op := .Eq) ⟨_, ho, rfl⟩ ⟨_, ho2, rfl⟩ F.slot_list_eq (call_meets F.slot_list_eq ⟨_, ho, rfl⟩ F.entry_list_eq (F.args_list_eq_2 _ _) (SeqAt.list_eq_lengthsAt l b items items2 n n2 dd dd2 sl sl2 (by simpa using hsz))
    ⟨ho, ho2, show Value.bool false ≠ Value.notImplemented ∧ Q (.bool false) s from ⟨(fun x => nomatch x), h⟩⟩) hu
end
end PySem.W
namespace DL
open PySem PySem.Spec L2 C8
theorem vals_size {xs : List V} {us : List Value} (r : Vals xs us) : us.toArray.size = xs.length := by rw [r.length]; simp
/-- x == [], x == (): by length alone -/
def rEqE (K : PySem.W.Frag) : R2 := fun x y H Q => ∃ a b xs, x = .ref a ∧ y = .ref b ∧ ((SqL K H a xs ∧ SqL K H b []) ∨ (SqT K H a xs ∧ SqT K H b [])) ∧ Q (.bl xs.isEmpty) H
theorem op_eqE {X : Cx} (hu : X.A.units + 64 < cLine) : OpR X (compareOp .Eq) (rEqE X.K) := by
  intro pins s σ H x y v u Q I rx ry h
  obtain ⟨a, b, xs, rfl, rfl, hq, q⟩ := h
  cases rx; cases ry
  have fin : EP X pins σ Q (.bool xs.isEmpty) s := ⟨.bl _, H, I, rfl, q⟩
  rcases hq with ⟨h1, h2⟩ | ⟨h1, h2⟩
  · obtain ⟨its, rv, p, _⟩ := I.list h1
    obtain ⟨its2, rv2, p2, _⟩ := I.list h2
    have z1 := vals_size rv
    have z2 := vals_size rv2
    cases xs with
    | nil => exact PySem.SeqAt.rcIn_lists (e := fun _ => true) p.isList p2.isList (by rw [z1, z2]) (by omega) (fun j g1 g2 => by rw [z1] at g1; cases g1) (by rw [z1]; exact fin)
    | cons x xs => exact PySem.W.rc_lens p.isList p2.isList (by rw [z1, z2]; simp) (by omega) fin
  · obtain ⟨its, rv, p, _⟩ := I.tuple h1
    obtain ⟨its2, rv2, p2, _⟩ := I.tuple h2
    have z1 := vals_size rv
    have z2 := vals_size rv2
    refine PySem.SeqAt.rcIn_tuples (e := fun _ => true) p p2 (by omega) (fun j g1 g2 => by rw [z2] at g2; cases g2) ?_
    rw [z1, z2]
    cases xs with
    | nil => exact fin
    | cons x xs => exact fin
def dEqE (x y : D) (h : AH) (Q : KD) : Prop := match y with
  | .lst [] => ∃ xs, lstOf h x = some xs ∧ Q (.bl xs.isEmpty) h
  | .tup [] => ∃ xs, (x = .tup xs ∨ x = .tpl xs) ∧ Q (.bl xs.isEmpty) h
  | _ => False
theorem reps_emp {K : PySem.W.Frag} {F : Hp} {xs : List D} {vs : List V} (r : Reps K F xs vs) : vs.isEmpty = xs.isEmpty := by cases r <;> rfl
theorem dEqE_ok {K : PySem.W.Frag} : OpD K (rEqE K) dEqE where
  to := by
    intro F h H x y vx vy Q S rx ry q
    unfold dEqE at q
    split at q
    · obtain ⟨xs, e, q⟩ := q
      obtain ⟨a, vs, rfl, ha, rs⟩ := S.lstOf rx e
      cases ry with
      | @lst b _ ws hb rb =>
        cases rb
        exact ⟨a, b, vs, rfl, rfl, .inl ⟨.of ha, .of (S.fz _ _ hb)⟩, by rw [reps_emp rs]; exact q.at S (.bl _)⟩
    · obtain ⟨xs, e, q⟩ := q
      cases ry with
      | @tup b _ ws hb rb =>
        cases rb
        rcases e with rfl | rfl
        · cases rx with
          | @tup a _ vs ha rs => exact ⟨a, b, vs, rfl, rfl, .inr ⟨sqt_of S.fz ha, sqt_of S.fz hb⟩, by rw [reps_emp rs]; exact q.at S (.bl _)⟩
        · cases rx with
          | @tpl a _ _ vs ha hd rs => exact ⟨a, b, vs, rfl, rfl, .inr ⟨sqt_of S.fz (.inl (.inr ⟨_, ha⟩)), sqt_of S.fz hb⟩, by rw [reps_emp rs]; exact q.at S (.bl _)⟩
    · exact q.elim
  mo := by
    intro x y h Q Q' hq q
    unfold dEqE at *
    split at q
    · obtain ⟨xs, e, q⟩ := q; exact ⟨xs, e, hq _ _ q⟩
    · obtain ⟨xs, e, q⟩ := q; exact ⟨xs, e, hq _ _ q⟩
    · exact q
section
variable {X : Cx} {E : XK} {gz : Bool} {k : Nat} {a b : Expr} {wa wb : WE} {pos : Pos}
theorem ae_eqE (c : Cg gz X E k) (ha : AE X E a wa) (hb : AE X E b wb) : AE X E (.Compare a [.Eq] [b] pos) (wOp dEqE wa wb) := ae_cmp dEqE_ok (op_eqE c.room.units) ha hb
theorem at_eqE (c : Cg gz X E k) (ha : AE X E a wa) (hb : AE X E b wb) : AT X E (.Compare a [.Eq] [b] pos) (wTest (wOp dEqE wa wb)) := at_cmp dEqE_ok (op_eqE c.room.units) ha hb
end
end DL
namespace PySem.W
open PySem PySem.Spec PySem.Calls PyProof.Rows
section
variable {prog : Program} {w : World} {A : Around} {E : Value → Shared → Prop} {s : Shared} {env : Env} {elts : List Expr} {k : Nat} {pos : Pos}
theorem dstar_items {l : Addr} {items : Array Value} {n i : Nat} {Q : List Value → Shared → Prop} (hl : IsTup s.heap l items) (hh : A.handled = none) (hi : i < n) (hn : n ≤ items.size + 1) (hz : items.size ≤ 16384)
    (h : ∀ (h2 : Heap) (tk : Nat), (∀ b o, s.heap.get? b = some o → h2.get? b = some o) → Q (items.toList.take i ++ [.ref h2.objs.size] ++ (items.toList.drop i).drop (items.size + 1 - n)) { s with heap := h2.push { cls := .type "list", data := .seq ((items.toList.drop i).take (items.size + 1 - n)).toArray }, toks := tk }) : wpAny (model prog w) A (unpackItems (.ref l) n (some i)) Q E s := by
  have hlt : l ≠ s.heap.objs.size := by obtain ⟨o, ho, _⟩ := hl; exact Nat.ne_of_lt (Heap.lt_size ho)
  have hll : l < s.heap.objs.size := by obtain ⟨o, ho, _⟩ := hl; exact Heap.lt_size ho
  unfold unpackItems
  refine wpAny_bind ?_
  unfold notIterableAtAll
  refine wpAny_bind (wpAny_specialOf hl.typeIs slot_tuple_iter.lookup ?_)
  refine wpAny_pure ?_
  simp only [Bool.false_eq_true, if_false]
  refine wpAny_bind (wpAny_holding (iter_tuple hl ?_))
  refine wpAny_bind (wpAny_holding (draw_tuple hlt i 0 _ _ ⟨_, Heap.get?_push_size _ rfl, rfl, rfl⟩ (hl.push _) (by omega) fun h₁ hit₁ hs₁ => ?_))
  have hl₁ : IsTup h₁ l items := (hl.push _).extBut hs₁.extBut hlt
  rw [Nat.zero_add] at hit₁
  have hit₁' := hit₁
  obtain ⟨oi, hoi, _⟩ := hit₁'
  have hl₁' := hl₁
  obtain ⟨ol, hol, _⟩ := hl₁'
  rw [List.drop_zero]
  have hfl : (items.toList.take i).length = i := by rw [List.length_take, Array.length_toList]; omega
  rw [if_neg (show ¬ ((items.toList.take i).length < i) by rw [hfl]; omega)]
  refine wpAny_bind (wpAny_holding (kun_collect (s := { s with heap := h₁ }) (T := "tuple_iterator") (.inr (.inr (.inr rfl))) (Walks.tuple (A := A.in1) hh s.heap.objs.size l hlt items) (fun j u st => st.1.typeIs) (k := i) (by omega) ⟨hit₁, hl₁⟩ (Heap.lt_size hoi) (Heap.lt_size hol) (fun h₂ tk hk => ?_) (by rw [sizeLine_eq]; omega)))
  have hrl : (items.toList.drop i).length = items.size - i := by rw [List.length_drop, Array.length_toList]
  have hmid : (items.toList.drop i).length - (n - 1 - i) = items.size + 1 - n := by rw [hrl]; omega
  show wpAny _ _ (if (items.toList.drop i).length < n - 1 - i then _ else _) _ _ _
  rw [if_neg (by rw [hrl]; omega)]
  show wpAny _ _ (newList ((items.toList.drop i).take ((items.toList.drop i).length - (n - 1 - i))) >>= fun d => pure (items.toList.take i ++ [d] ++ (items.toList.drop i).drop ((items.toList.drop i).length - (n - 1 - i)))) _ _ _
  rw [hmid]
  have he : ∀ b o, s.heap.get? b = some o → h₂.get? b = some o := fun b o e => hk b o (Nat.ne_of_lt (Heap.lt_size e)) (hs₁.extBut b o (Nat.ne_of_lt (Heap.lt_size e)) (Heap.get?_push_of_some _ e))
  exact wpAny_bind (wpAny_newList (wpAny_pure (h h₂ tk he)) (by rw [List.length_take, hrl, sizeLine_eq]; omega))
theorem dstar_assign {l : Addr} {items : Array Value} {n i : Nat} {Q : Unit → Shared → Prop} (hl : IsTup s.heap l items) (hh : A.handled = none) (hlen : (assignEach elts env).length = n) (hstar : (assignEach elts env).findIdx? (·.1) = some i)
    (hi : i < n) (hn : n ≤ items.size + 1) (hz : items.size ≤ 16384)
    (h : ∀ (h2 : Heap) (tk : Nat), (∀ b o, s.heap.get? b = some o → h2.get? b = some o) → wpAny (model prog w) A (assignInOrder ((assignEach elts env).map (·.2)) (items.toList.take i ++ [.ref h2.objs.size] ++ (items.toList.drop i).drop (items.size + 1 - n))) Q E { s with heap := h2.push { cls := .type "list", data := .seq ((items.toList.drop i).take (items.size + 1 - n)).toArray }, toks := tk }) :
    wpAny (model prog w) A (assign (.Tuple elts k pos) env (.ref l)) Q E s := by
  rw [assign_Tuple]
  refine wpAny_bind (wpAny_standAt ?_)
  unfold unpack
  rw [hlen, hstar]
  exact wpAny_bind (wpAny_holding (dstar_items hl hh hi hn hz h))
end
end PySem.W
namespace L2
open PySem PySem.Spec PyProof.Rows
section
variable {X : Cx} {pos : Pos} {es : List Expr}
theorem pgs_star {e : Expr} {p : Pos} {es : List Expr} {t : TG} {u : TGs} (h1 : PG X e t) (h2 : PGs X es u)
    (hs : (assignEach (.Starred e p :: es) X.env).map (·.2) = assign e X.env :: (assignEach es X.env).map (·.2) := by rfl) : PGs X (.Starred e p :: es) (gCons t u) := by
  refine ⟨fun pins s σ H vs us Q I r h => ?_⟩
  obtain ⟨v, vr, e1, h⟩ := h
  subst e1
  cases r with
  | cons r rr =>
    rw [hs]
    refine assignInOrder_cons (thn (h1.run pins s σ H _ _ _ I r h) fun _ s1 ⟨σ1, H1, I1, q1⟩ => ?_)
    exact h2.run pins s1 σ1 H1 _ _ Q I1 rr q1
/-- (a, *b, ..) = a tuple -/
def gStarT (K : PySem.W.Frag) (n i : Nat) (t : TGs) : TG := fun v σ H Q => ∃ a xs, v = .ref a ∧ SqT K H a xs ∧ i < n ∧ n ≤ xs.length + 1 ∧ xs.length ≤ 16384 ∧
  ∀ p, H p = none → t (xs.take i ++ [V.ref p] ++ (xs.drop i).drop (xs.length + 1 - n)) σ (upd H p (.lst ((xs.drop i).take (xs.length + 1 - n)))) Q
theorem vals_take {xs : List V} {us : List Value} (r : Vals xs us) : ∀ n, Vals (xs.take n) (us.take n) := by
  induction r with
  | nil => intro n; simp; exact .nil
  | cons h t ih =>
    intro n
    cases n with
    | zero => exact .nil
    | succ n => exact .cons h (ih n)
theorem vals_drop {xs : List V} {us : List Value} (r : Vals xs us) : ∀ n, Vals (xs.drop n) (us.drop n) := by
  induction r with
  | nil => intro n; simp; exact .nil
  | cons h t ih =>
    intro n
    cases n with
    | zero => exact .cons h t
    | succ n => exact ih n
theorem pg_starT {k n i : Nat} {t : TGs} (hc : X.calm = true) (h : PGs X es t)
    (hn : (assignEach es X.env).length = n := by rfl) (hst : (assignEach es X.env).findIdx? (·.1) = some i := by rfl) : PG X (.Tuple es k pos) (gStarT X.K n i t) := by
  refine ⟨fun pins s σ H v u Q I r hw => ?_⟩
  obtain ⟨a, xs, e1, hq, h1, h2, h3, hw⟩ := hw
  subst e1
  cases r
  obtain ⟨its, rv, ht, hz⟩ := I.tuple hq
  have lv : its.toArray.size = xs.length := by rw [rv.length]; simp
  refine PySem.W.dstar_assign ht (I.ok.hd hc) hn hst h1 (by rw [lv]; exact h2) (by rw [lv]; exact h3) fun g tk hx => ?_
  have I1 : Inv X pins σ H { s with heap := g, toks := tk } := I.kept (t' := tk) fun b o e => hx b o e
  have hf : H g.objs.size = none := I1.hok.fresh (Nat.le_refl _)
  have rm : Vals ((xs.drop i).take (xs.length + 1 - n)) ((its.drop i).take (xs.length + 1 - n)) := vals_take (vals_drop rv i) _
  have I2 : Inv X pins σ (upd H g.objs.size (.lst ((xs.drop i).take (xs.length + 1 - n)))) { s with heap := g.push { cls := .type "list", data := .seq ((its.drop i).take (xs.length + 1 - n)).toArray }, toks := tk } := by
    refine I1.laid (t' := tk) (fun b u e => Heap.get?_push_of_some _ e) (Nat.le_refl _) ?_
    refine ⟨?_, _, 0, rm, Heap.get?_push_size _ rfl⟩
    rw [List.length_take, List.length_drop, sizeLine_eq]
    omega
  refine h.run pins _ σ _ _ _ Q (by rw [lv]; exact I2) ?_ (hw _ hf)
  rw [lv]
  refine ((vals_take rv i).append (.cons (a := V.ref g.objs.size) (b := Value.ref g.objs.size) rfl .nil)).append (vals_drop (vals_drop rv i) _)
end
end L2
namespace DL
open PySem PySem.Spec L2 C8
section
variable {X : Cx} {E : XK} {pos : Pos} {e : Expr} {es : List Expr}
theorem ags_star {p : Pos} {g : WG} {gr : WGs} (h1 : AG X E e g) (h2 : AGs X E es gr) (hs : (assignEach (.Starred e p :: es) X.env).map (·.2) = assign e X.env :: (assignEach es X.env).map (·.2) := by rfl) : AGs X E (.Starred e p :: es) (gsCons g gr) := by
  refine ⟨PGs.imp (pgs_star h1.run h2.run hs) fun v σ H Q ⟨F, ρ, h, d, S, R, r, q⟩ => ?_, fun d ρ h Q Q' X X' hq hx q => ?_⟩
  · obtain ⟨x, xs, rfl, q⟩ := q
    cases r with
    | cons r rr =>
      refine ⟨_, _, rfl, F, ρ, h, x, S, R, r, h1.mo _ _ _ _ _ _ _ (fun ρ1 g1 z => ?_) (fun _ _ z => z) q⟩
      intro F1 H1 σ1 e1 S1 R1
      exact ⟨F1, ρ1, g1, xs, S1, R1, rr.ext e1, h2.mo _ _ _ _ _ _ _ (fun _ _ z => LS.ext e1 z) (fun _ _ z => LX.ext e1 z) z⟩
  · obtain ⟨x, xs, e, q⟩ := q
    exact ⟨x, xs, e, h1.mo _ _ _ _ _ _ _ (fun ρ1 g1 z => h2.mo _ _ _ _ _ _ _ hq hx z) hx q⟩
/-- (a, *b, ..) = a tuple: the list is one that does not change -/
def gStarD (n i : Nat) (t : WGs) : WG := fun d ρ h Q X => ∃ xs, d = .tup xs ∧ i < n ∧ n ≤ xs.length + 1 ∧ xs.length ≤ 16384 ∧ t (xs.take i ++ [.lst ((xs.drop i).take (xs.length + 1 - n))] ++ (xs.drop i).drop (xs.length + 1 - n)) ρ h Q X
theorem ag_starT {k2 n i : Nat} {gr : WGs} (hc : X.calm = true) (h : AGs X E es gr) (hn : (assignEach es X.env).length = n := by rfl) (hst : (assignEach es X.env).findIdx? (·.1) = some i := by rfl) : AG X E (.Tuple es k2 pos) (gStarD n i gr) := by
  refine ⟨PG.imp (pg_starT hc h.run hn hst) fun v σ H Q ⟨F, ρ, g, d, S, R, r, q⟩ => ?_, fun d ρ g Q Q' X X' hq hx q => ?_⟩
  · obtain ⟨xs, rfl, l1, l2, l3, q⟩ := q
    cases r with
    | @tup a _ vs hs rs =>
      refine ⟨a, vs, rfl, sqt_of S.fz hs, l1, by rw [← rs.length]; exact l2, by rw [← rs.length]; exact l3, fun p hp => ?_⟩
      have lv := rs.length
      obtain ⟨f, gg⟩ := S.free hp
      have e := ext_upd f (o := .lst ((vs.drop i).take (vs.length + 1 - n)))
      refine ⟨_, ρ, g, _, S.newF hp _, R.ext e, ?_, h.mo _ _ _ _ _ _ _ (fun _ _ z => LS.ext e z) (fun _ _ z => LX.ext e z) q⟩
      rw [lv]
      have rd := rs.drop i
      refine Reps.append (Reps.append ((rs.take i).ext e) (.cons (.lst upd_same ((rd.take _).ext e)) .nil)) ((rd.drop _).ext e)
  · obtain ⟨xs, e, l1, l2, l3, q⟩ := q
    exact ⟨xs, e, l1, l2, l3, h.mo _ _ _ _ _ _ _ hq hx q⟩
end
end DL
namespace DL
open PySem PySem.Spec L2 C8
/-- a def of which nothing is promised yet -/
theorem fng_none {gz : Bool} {P : Program} {w : World} {K : PySem.W.Frag} {mg : Str → Option Value} {base : Heap} {k : Nat} {f : Addr} {fd : FuncData} {ps : List Str} {S : FSpec} (no : ∀ ds h Q X, ¬ S ds h Q X) : FnG gz P w K mg base k f fd ps S :=
  ⟨fun _ _ _ _ s => (no _ _ _ _ s).elim, fun _ _ _ _ _ _ _ _ s => (no _ _ _ _ s).elim, fun _ _ _ _ _ ⟨_, _, _, _, _, s⟩ => (no _ _ _ _ s).elim⟩
/-! ### a tuple of texts that a name of the module holds -/
def strOf : Value → Option Str
  | .str x _ => some x
  | _ => none
def strsOf : List Value → Option (List Str)
  | [] => some []
  | v :: vs => match strOf v, strsOf vs with
    | some x, some xs => some (x :: xs)
    | _, _ => none
theorem strs_vals : ∀ {vs : List Value} {xs : List Str}, strsOf vs = some xs → Vals (xs.map V.str) vs
  | [], _, h => by cases h; exact .nil
  | v :: vs, xs, h => by
    unfold strsOf at h
    split at h
    · rename_i x ys h1 h2
      cases h
      cases v with
      | str y t => cases h1; exact .cons ⟨t, rfl⟩ (strs_vals h2)
      | _ => cases h1
    · cases h
theorem reps_strs {K : PySem.W.Frag} {F : Hp} : ∀ xs : List Str, Reps K F (xs.map D.str) (xs.map V.str)
  | [] => .nil
  | x :: xs => .cons (.str x) (reps_strs xs)
theorem cst_strs {K : PySem.W.Frag} {mg : Str → Option Value} {x : Str} {a : Addr} {xs : List Str} {d : Option Addr} {its : Array Value} {m : Nat} {sl : Array (Option Value)} (h : mg x = some (.ref a)) (e : K.lookup a = some ⟨.type "tuple", d, .seq its m, sl⟩) (c : its.size ≤ 1000) (q : strsOf its.toList = some xs) : Cst K mg x (.tup (xs.map D.str)) :=
  ⟨⟨.ref a, _, h, rfl, fun F => .tup (.inr ⟨_, its, m, e, rfl, rfl, Nat.le_trans c (by rw [sizeLine_eq]; decide), strs_vals q⟩) (reps_strs xs)⟩⟩
end DL
namespace DL
open PySem PySem.Spec L2 C8
/-! ### the draw of the laws k01-k11, k47-k57, k96-k99 -/
def w_draw2 : WS := (wSeq (wIfS (wTest (wOp (dCmpI fun i j => decide (j < i)) (wOp dIx (wVar 0) (wC (.int 2))) (wC (.int 0)))) (wSeq (wAsg (wOp dMod (wOp dIx (wVar 0) (wC (.int 2))) (wVar 1)) (gN 2))
  (wSeq (wAsg (wOp dDiv (wOp dIx (wVar 0) (wC (.int 2))) (wVar 1)) (gSubL (wVar 0) (wC (.int 2))))
  (wRet (wVar 2)))) wSkip)
  (wSeq (wAsg (wOp dIx (wVar 0) (wC (.int 1))) (gN 3))
  (wSeq (wAsg (wOp (dAdd false) (wVar 3) (wC (.int 1))) (gSubL (wVar 0) (wC (.int 1))))
  (wSeq (wAsg (wOp (dAdd false) (wOp (dMul false) (wC (.int 80239)) (wVar 3)) (wC (.int 71))) (gN 4))
  (wSeq (wIfS (wTest (wOp (dEq fun b => !b) (wOp dIx (wVar 0) (wC (.int 0))) (wLst false wNil))) (wAsg (wOp dIx (wOp dIx (wVar 0) (wC (.int 0))) (wOp dMod (wVar 3) (wB dLen (wCons (wOp dIx (wVar 0) (wC (.int 0))) wNil)))) (gN 4)) wSkip)
  (wSeq (wIfS (wAnd (wTest (wOp (dCmpI fun i j => decide (i < j)) (wVar 3) (wB dLen (wCons (wOp dIx (wVar 0) (wC (.int 0))) wNil)))) (wTest (wOp (dCmpI fun i j => decide (j ≤ i)) (wB dAbs (wCons (wVar 4) wNil)) (wOp dPow (wC (.int 10)) (wC (.int 18)))))) (wSeq (wAsg (wOp (dAdd false) (wOp (dMul false) (wC (.int 2)) (wB dAbs (wCons (wVar 4) wNil))) (wB dInt (wCons (wOp (dCmpI fun i j => decide (i < j)) (wVar 4) (wC (.int 0))) wNil))) (gN 5))
  (wSeq (wAsg (wOp dDiv (wVar 5) (wVar 1)) (gSubL (wVar 0) (wC (.int 2))))
  (wRet (wOp dMod (wVar 5) (wVar 1))))) wSkip)
  (wSeq (wAsg (wOp dMod (wOp dPow (wOp (dAdd false) (wOp (dAdd false) (wOp dMod (wVar 4) (wC (.int 2147483587))) (wOp (dMul false) (wC (.int 61027)) (wVar 3))) (wC (.int 29))) (wC (.int 3))) (wC (.int 2147483629))) (gN 6))
  (wSeq (wAsg (wOp dMod (wOp dPow (wOp (dAdd false) (wOp (dMul false) (wVar 6) (wOp (dAdd false) (wOp (dMul false) (wC (.int 2)) (wVar 3)) (wC (.int 9)))) (wC (.int 93239))) (wC (.int 3))) (wC (.int 2147483543))) (gN 6))
  (wRet (wOp dMod (wOp dDiv (wVar 6) (wC (.int 16))) (wVar 1)))))))))))
theorem p_draw2 : ∀ ds h Q X, S_draw ds h Q X → w_draw2 (endsD Q X) (startD 7 ds) h := by
  rintro ds h Q X ⟨n, p, m, rfl, ⟨_, hp, cs, at_, gr, rfl, l1, l2, l3, l4⟩, hn, dm, q⟩
  show w_draw2 (endsD Q X) [some (.ref p), some (.int m), none, none, none, none, none] h
  have hm : 0 < m := dm.1
  unfold w_draw2
  rw [u_seq]
  simp only [u_asg, u_gN, u_ret, u_retN, u_skip, u_expr, u_ifs, u_c, u_op, u_neg, u_test, u_and, u_or, u_not, u_if, u_nil, u_cons, u_tup, u_lst, u_callP, u_call, u_b, u_chain, u_andV, u_addI, u_subI, u_mulI, u_divI, u_modI, u_powI, u_cmpI, u_eqI, u_eqS, u_eqB, u_abs, u_intI, u_intB, u_newT, u_newF, u_isN, u_notN, wVar, List.set_cons_zero, List.set_cons_succ, List.getElem?_cons_zero, List.getElem?_cons_succ, List.length_cons, List.length_nil, u_ixRd hp at2]
  by_cases c : 0 < gr
  · simp only [decide_eq_true c, if_true, u_seq, u_asg, u_gN, u_ret, u_retN, u_skip, u_expr, u_ifs, u_c, u_op, u_neg, u_test, u_and, u_or, u_not, u_if, u_nil, u_cons, u_tup, u_lst, u_callP, u_call, u_b, u_chain, u_andV, u_addI, u_subI, u_mulI, u_divI, u_modI, u_powI, u_cmpI, u_eqI, u_eqS, u_eqB, u_abs, u_intI, u_intB, u_newT, u_newF, u_isN, u_notN, wVar, List.set_cons_zero, List.set_cons_succ, List.getElem?_cons_zero, List.getElem?_cons_succ, List.length_cons, List.length_nil, u_ixRd hp at2, gSubL]
    refine ⟨hm, dm, p, _, 2, 2, rfl, rfl, hp, rfl, fin_of (q _ _ (Int.emod_nonneg _ (by omega)) (Int.emod_lt_of_pos _ hm) ⟨cs, at_, gr / m, rfl, l1, l2, by omega, Int.ediv_nonneg l4 (by omega)⟩)⟩
  simp only [decide_eq_false c, Bool.false_eq_true, if_false]
  rw [u_seq]
  simp only [u_asg, u_gN, u_ret, u_retN, u_skip, u_expr, u_ifs, u_c, u_op, u_neg, u_test, u_and, u_or, u_not, u_if, u_nil, u_cons, u_tup, u_lst, u_callP, u_call, u_b, u_chain, u_andV, u_addI, u_subI, u_mulI, u_divI, u_modI, u_powI, u_cmpI, u_eqI, u_eqS, u_eqB, u_abs, u_intI, u_intB, u_newT, u_newF, u_isN, u_notN, wVar, List.set_cons_zero, List.set_cons_succ, List.getElem?_cons_zero, List.getElem?_cons_succ, List.length_cons, List.length_nil, u_ixRd hp at1]
  rw [u_seq]
  simp only [u_asg, u_gN, u_ret, u_retN, u_skip, u_expr, u_ifs, u_c, u_op, u_neg, u_test, u_and, u_or, u_not, u_if, u_nil, u_cons, u_tup, u_lst, u_callP, u_call, u_b, u_chain, u_andV, u_addI, u_subI, u_mulI, u_divI, u_modI, u_powI, u_cmpI, u_eqI, u_eqS, u_eqB, u_abs, u_intI, u_intB, u_newT, u_newF, u_isN, u_notN, wVar, List.set_cons_zero, List.set_cons_succ, List.getElem?_cons_zero, List.getElem?_cons_succ, List.length_cons, List.length_nil, gSubL]
  refine ⟨p, _, 1, 1, rfl, rfl, hp, rfl, ?_⟩
  have e1 : ([D.lst (cs.map D.int), D.int at_, D.int gr].set 1 (D.int (at_ + 1))) = [D.lst (cs.map D.int), D.int (at_ + 1), D.int gr] := rfl
  rw [e1]
  have ug : ∀ o, up (up h p (.lst [D.lst (cs.map D.int), D.int (at_ + 1), D.int gr])) p o = up h p o := fun o => up_up
  have gp : (up h p (.lst [D.lst (cs.map D.int), D.int (at_ + 1), D.int gr])) p = some (.lst [D.lst (cs.map D.int), D.int (at_ + 1), D.int gr]) := up_same
  have fin0 : ∀ v, 0 ≤ v → v < m → Q (.int v) (up h p (.lst [D.lst (cs.map D.int), D.int (at_ + 1), D.int gr])) := fun v h1 h2 => q v _ h1 h2 ⟨cs, at_ + 1, gr, rfl, l1, by omega, by omega, l4⟩
  have fin1 : ∀ v g, 0 ≤ v → v < m → 0 ≤ g → Q (.int v) (up h p (.lst [D.lst (cs.map D.int), D.int (at_ + 1), D.int g])) := fun v g h1 h2 h3 => q v _ h1 h2 ⟨cs, at_ + 1, g, rfl, l1, by omega, by omega, h3⟩
  generalize hg : up h p (.lst [D.lst (cs.map D.int), D.int (at_ + 1), D.int gr]) = g at gp ug fin0 ⊢
  rw [u_seq]
  simp only [u_asg, u_gN, u_ret, u_retN, u_skip, u_expr, u_ifs, u_c, u_op, u_neg, u_test, u_and, u_or, u_not, u_if, u_nil, u_cons, u_tup, u_lst, u_callP, u_call, u_b, u_chain, u_andV, u_addI, u_subI, u_mulI, u_divI, u_modI, u_powI, u_cmpI, u_eqI, u_eqS, u_eqB, u_abs, u_intI, u_intB, u_newT, u_newF, u_isN, u_notN, wVar, List.set_cons_zero, List.set_cons_succ, List.getElem?_cons_zero, List.getElem?_cons_succ, List.length_cons, List.length_nil]
  refine ⟨mul_l (by decide), ?_⟩
  -- the cell
  refine seq_go (fun ρ h => g = h ∧ ∃ c : Int, ρ = [some (.ref p), some (.int m), none, some (.int at_), some (.int c), none, none]) (fun K k => ?_) ?_
  · simp only [u_asg, u_gN, u_ret, u_retN, u_skip, u_expr, u_ifs, u_c, u_op, u_neg, u_test, u_and, u_or, u_not, u_if, u_nil, u_cons, u_tup, u_lst, u_callP, u_call, u_b, u_chain, u_andV, u_addI, u_subI, u_mulI, u_divI, u_modI, u_powI, u_cmpI, u_eqI, u_eqS, u_eqB, u_abs, u_intI, u_intB, u_newT, u_newF, u_isN, u_notN, wVar, List.set_cons_zero, List.set_cons_succ, List.getElem?_cons_zero, List.getElem?_cons_succ, List.length_cons, List.length_nil, u_ixRd gp at0]
    refine ⟨Nat.zero_le _, eq_nil ?_⟩
    by_cases z : cs = []
    · rw [decide_eq_true z]
      exact k _ _ ⟨rfl, _, rfl⟩
    rw [decide_eq_false z]
    simp only [Bool.not_false, if_true, u_ixRd gp at0, u_lenL, u_modI, u_ixL]
    have lc : 0 < cs.length := List.length_pos_iff.mpr z
    have lp : (0 : Int) < ((cs.map D.int).length : Nat) := by rw [List.length_map]; omega
    refine ⟨lp, ?_⟩
    have a0 := Int.emod_nonneg at_ (show (((cs.map D.int).length : Nat) : Int) ≠ 0 by omega)
    have a1 := Int.emod_lt_of_pos at_ lp
    obtain ⟨j, ej⟩ := Int.eq_ofNat_of_zero_le a0
    rw [ej] at a1 ⊢
    rw [List.length_map] at a1
    have lj : j < cs.length := by omega
    refine ⟨.int cs[j], ?_, k _ _ ⟨rfl, _, rfl⟩⟩
    rw [atI_nat (by rw [List.length_map]; exact lj), List.getElem?_map, List.getElem?_eq_getElem lj]
    rfl
  rintro _ _ ⟨rfl, c, rfl⟩
  refine seq_go (fun ρ h => g = h ∧ ρ = [some (.ref p), some (.int m), none, some (.int at_), some (.int c), none, none]) (fun K k => ?_) ?_
  · simp only [u_asg, u_gN, u_ret, u_retN, u_skip, u_expr, u_ifs, u_c, u_op, u_neg, u_test, u_and, u_or, u_not, u_if, u_nil, u_cons, u_tup, u_lst, u_callP, u_call, u_b, u_chain, u_andV, u_addI, u_subI, u_mulI, u_divI, u_modI, u_powI, u_cmpI, u_eqI, u_eqS, u_eqB, u_abs, u_intI, u_intB, u_newT, u_newF, u_isN, u_notN, wVar, List.set_cons_zero, List.set_cons_succ, List.getElem?_cons_zero, List.getElem?_cons_succ, List.length_cons, List.length_nil, u_ixRd gp at0, u_lenL]
    have k := k _ _ ⟨rfl, rfl⟩
    by_cases z : at_ < ((cs.map D.int).length : Nat)
    · rw [decide_eq_true z]
      simp only [if_true]
      refine ⟨by refine ⟨by decide, by decide, by decide⟩, ?_⟩
      by_cases y : (10 ^ Int.toNat 18 : Int) ≤ if c < 0 then -c else c
      · rw [if_pos (decide_eq_true y)]
        simp only [u_seq, u_asg, u_gN, u_ret, u_retN, u_skip, u_expr, u_ifs, u_c, u_op, u_neg, u_test, u_and, u_or, u_not, u_if, u_nil, u_cons, u_tup, u_lst, u_callP, u_call, u_b, u_chain, u_andV, u_addI, u_subI, u_mulI, u_divI, u_modI, u_powI, u_cmpI, u_eqI, u_eqS, u_eqB, u_abs, u_intI, u_intB, u_newT, u_newF, u_isN, u_notN, wVar, List.set_cons_zero, List.set_cons_succ, List.getElem?_cons_zero, List.getElem?_cons_succ, List.length_cons, List.length_nil, gSubL]
        have nn : 0 ≤ 2 * (if c < 0 then -c else c) + (if decide (c < 0) = true then 1 else 0) := by split <;> split <;> omega
        refine ⟨mul_l (by decide), dm, p, _, 2, 2, rfl, rfl, gp, rfl, hm, fin_of ?_⟩
        rw [ug]
        exact fin1 _ _ (Int.emod_nonneg _ (by omega)) (Int.emod_lt_of_pos _ hm) (Int.ediv_nonneg nn (by omega))
      · rw [if_neg (by rw [decide_eq_false y]; decide)]
        exact k
    · rw [decide_eq_false z]
      exact k
  rintro _ _ ⟨rfl, rfl⟩
  simp only [u_seq, u_asg, u_gN, u_ret, u_retN, u_skip, u_expr, u_ifs, u_c, u_op, u_neg, u_test, u_and, u_or, u_not, u_if, u_nil, u_cons, u_tup, u_lst, u_callP, u_call, u_b, u_chain, u_andV, u_addI, u_subI, u_mulI, u_divI, u_modI, u_powI, u_cmpI, u_eqI, u_eqS, u_eqB, u_abs, u_intI, u_intB, u_newT, u_newF, u_isN, u_notN, wVar, List.set_cons_zero, List.set_cons_succ, List.getElem?_cons_zero, List.getElem?_cons_succ, List.length_cons, List.length_nil]
  have b1 : 0 ≤ c % 2147483587 := Int.emod_nonneg _ (by decide)
  have b2 : c % 2147483587 < 2147483587 := Int.emod_lt_of_pos _ (by decide)
  have b3 : at_ ≤ 1000000 := by omega
  generalize e6 : (c % 2147483587 + 61027 * at_ + 29) = u
  have b6 : 0 ≤ u ∧ u < 2 ^ 63 := by omega
  generalize e7 : u ^ Int.toNat 3 % 2147483629 = v
  have b7 : 0 ≤ v ∧ v < 2147483629 := by rw [← e7]; exact ⟨Int.emod_nonneg _ (by decide), Int.emod_lt_of_pos _ (by decide)⟩
  have b8 : v * (2 * at_ + 9) ≤ 2147483629 * (2 * 1000000 + 9) := Int.mul_le_mul (by omega) (by omega) (by omega) (by omega)
  have b9 : 0 ≤ v * (2 * at_ + 9) := Int.mul_nonneg b7.1 (by omega)
  refine ⟨by decide, mul_l (by decide), ⟨by decide, by decide, by omega⟩, by decide, mul_l (by decide), mul_l (by omega), ⟨by decide, by decide, by omega⟩, by decide, ⟨by decide, .inl (by decide)⟩, hm, fin_of (fin0 _ (Int.emod_nonneg _ (by omega)) (Int.emod_lt_of_pos _ hm))⟩
end DL
namespace DL
open PySem PySem.Spec L2 C8 PyProof.Rows
/-! ### max(d, default=x), d with int keys -/
section
variable {X : Cx}
def rMaxDd : List V → List V → Hp → VK → Prop := fun xs zs H Q => ∃ (a : Addr) (z : V) (kvs : List (Key × V)) (ks : List Int), xs = [.ref a] ∧ zs = [z] ∧ H a = some (.dK kvs) ∧ kvs.map (·.1) = ks.map Sum.inl ∧ (ks = [] → Q z H) ∧ ∀ m, m ∈ ks → (∀ y ∈ ks, y ≤ m) → Q (.int m) H
theorem cr_maxDd (hc : X.calm = true) : CallRK X (.builtin "max") ["default"] (rMaxDd) := by
  intro pins s σ H xs zs us ws Q I r rz h
  obtain ⟨a, z, kvs, ks, rfl, rfl, ha, hks, q0, q1⟩ := h
  obtain rfl := Vals.ref1 r
  obtain ⟨zv, rfl, rzv⟩ := vals1 rz
  obtain ⟨zl, lo, vs, rel, dd⟩ := (show ObjOk X.prog X.w H s.heap a (.dK kvs) from I.hok a _ ha)
  obtain ⟨ep, hat⟩ := dd.dictAt
  have hkeys : vs.map (·.1) = ks.map Sum.inl := (KV.keys rel).symm.trans hks
  have hl : vs.length = ks.length := by
    have e := congrArg List.length hkeys
    rw [List.length_map, List.length_map] at e
    exact e
  have hlt : a < s.heap.objs.size := hat.lt_size
  have pv : ∀ (i : Nat) (v : Value), (∃ k x, vs[i]? = some (k, x) ∧ (mixKind X.prog X.w).is k v = true) → ∃ t, v = .int (ks.getD i 0) t := fun i v ⟨k, x, e1, e2⟩ => by
    have e3 : (vs.map (·.1))[i]? = some k := by rw [List.getElem?_map, e1]; rfl
    rw [hkeys, List.getElem?_map] at e3
    cases e4 : ks[i]? with
    | none => rw [e4] at e3; cases e3
    | some y =>
      rw [e4] at e3
      have e5 : Sum.inl y = k := Option.some.inj e3
      subst e5
      rcases keyIs_shape (show keyIs (Sum.inl y) v = true from e2) with ⟨i, t, ek, ev⟩ | ⟨z, t, ek, ev⟩
      · cases ek
        exact ⟨t, by rw [ev, List.getD_eq_getElem?_getD, e4]; rfl⟩
      · cases ek
  show wpAny _ _ (call (.builtin "max") [.ref a] [(Str.ofString "default", zv)]) _ _ _
  refine call_max_walkD (wpAny_pyIter_dict lo hat ?_)
  refine ⟨s.heap.objs.size, _, _, _, vs.length, _, _, s.heap, (fun i j => decide (ks.getD i 0 > ks.getD j 0)), rfl, (Walks.dictKeys (A := X.A.in1) (knd := mixKind X.prog X.w) (I.ok.hd hc) s.heap.objs.size a (Nat.ne_of_lt hlt) vs ep).toS, ⟨⟨_, Heap.get?_push_size _ rfl, rfl, rfl⟩, hat.push _⟩, fun b hb => ?_, fun b o e hb => ?_, fun b o e => Heap.get?_push_of_some _ e, fun hn s' hm => ?_, fun hn => ⟨fun i j vi vj s Q E _ h1 h2 h3 => CmpOf.ints_gt (fun i => ks.getD i 0) pv i j vi vj s Q E h1 h2 h3, fun v s' hP hm => ?_⟩⟩
  · show b < (s.heap.push _).objs.size
    rw [Heap.size_push]
    rcases List.mem_cons.mp hb with rfl | hb
    · exact Nat.lt_succ_self _
    · rcases List.mem_cons.mp hb with rfl | hb
      · exact Nat.lt_succ_of_lt hlt
      · cases hb
  · exact absurd (Heap.lt_size e) ((List.mem_singleton.mp hb) ▸ Nat.lt_irrefl _)
  · obtain ⟨h', tk, rfl, hk'⟩ := PySem.W.moved_old rfl rfl hm
    exact ⟨z, H, I.kept hk', rzv, q0 (List.eq_nil_of_length_eq_zero (by omega))⟩
  · obtain ⟨h', tk, rfl, hk'⟩ := PySem.W.moved_old rfl rfl hm
    obtain ⟨t, rfl⟩ := pv _ v hP
    obtain ⟨h1, h2⟩ := argBest_gt (fun i => ks.getD i 0) (vs.length - 1)
    refine ⟨.int _, H, I.kept hk', ⟨t, rfl⟩, q1 _ ?_ fun y hy => ?_⟩
    · exact PySem.getD_mem (by omega)
    · obtain ⟨j, hj, rfl⟩ := mem_getD hy
      exact h2 j (by omega)
end
section
variable {X : Cx} {E : XK} {gz : Bool} {k : Nat} {o e : Expr} {wo wv : WE} {pos p kpos : Pos}
def wMaxDd (wl wk : WA) : WE := fun ρ h Q X => wl ρ h (fun xs h1 => wk ρ h1 (fun zs h2 => ∃ (x z : D) (kvs : List (Key × D)) (ks : List Int), xs = [x] ∧ zs = [z] ∧ dkOf h2 x = some kvs ∧ kvs.map (·.1) = ks.map Sum.inl ∧ (ks = [] → Q z h2) ∧ ∀ m, m ∈ ks → (∀ y ∈ ks, y ≤ m) → Q (.int m) h2) X) X
theorem ae_maxDd {wl wk : WA} (hm : X.mg "max" = none) (c : Cg gz X E k) (A1 : AA X E [o] wl) (A2 : AK X E [⟨some "default", e, kpos⟩] wk) (hg : Gl X "max" := by rfl)
    (he : backTo pos (starEach [o] X.env) = (false, eval o X.env) :: backTo pos (starEach [] X.env) := by rfl) (hpl : (backTo pos (starEach [o] X.env)).any (·.1) = false := by rfl)
    (hall : (backToKw pos (keywordEach [⟨some "default", e, kpos⟩] X.env)).all (·.1.isSome) = true := by rfl) (hnone : (backToKw pos (keywordEach [⟨some "default", e, kpos⟩] X.env)).any (·.1.isNone) = false := by rfl) (hks : (backToKw pos (keywordEach [⟨some "default", e, kpos⟩] X.env)).filterMap (·.1) = [("default" : Str)] := by rfl) :
    AE X E (.Call (.Name "max" p) [o] [⟨some "default", e, kpos⟩] pos) (wMaxDd wl wk) := by
  refine ⟨PE.imp (pe_callBK (cr_maxDd c.calm) hg hm bb_max A1.run A2.run (he := he) (hpl := hpl) (hall := hall) (hnone := hnone) (hks := hks)) fun σ H Q ⟨F, ρ, h, S, R, q⟩ => ?_, fun ρ h Q Q' X X' hq hx q => A1.mo _ _ _ _ _ _ (fun xs h1 z => A2.mo _ _ _ _ _ _ (fun zs h2 ⟨x, y, kvs, ks, e1, e2, e3, e4, z1, z2⟩ => ⟨x, y, kvs, ks, e1, e2, e3, e4, fun e => hq _ _ (z1 e), fun m h1 h2 => hq _ _ (z2 m h1 h2)⟩) hx z) hx q⟩
  refine ⟨F, ρ, h, S, R, A1.mo _ _ _ _ _ _ (fun xs h1 z => ?_) (fun _ _ z => z) q⟩
  intro F1 H1 vs e1 S1 rs
  refine ⟨F1, ρ, h1, S1, R.ext e1, A2.mo _ _ _ _ _ _ (fun zs h2 z => ?_) (fun _ _ z => LX.ext e1 z) z⟩
  intro F2 H2 ws e2 S2 rw'
  obtain ⟨x, y, kvs, ks, rfl, rfl, d1, d2, z1, z2⟩ := z
  obtain ⟨vx, rfl, rx⟩ := rs.one
  obtain ⟨vy, rfl, ry⟩ := rw'.one
  obtain ⟨a, us, rfl, hu, rk⟩ := S2.dkOf (rx.ext e2) d1
  exact ⟨a, vy, us, ks, rfl, rfl, hu, by rw [← rk.keys]; exact d2, fun e => (LQ.ext (e1.trans e2) (z1 e)).at S2 ry, fun m h1 h2 => (LQ.ext (e1.trans e2) (z2 m h1 h2)).at S2 (.int m)⟩
end
end DL
namespace DL
open PySem PySem.Spec L2 C8 PyProof.Rows
/-! ### tuple(d.items()) -/
section
variable {prog : Program} {w : World} {A : Around} {E : Value → Shared → Prop} {s : Shared} {K : Type} [DecidableEq K] {knd : KeyKind prog w K} {r d : Addr} {kvs : List (K × Value)} {ep : Nat}
theorem code_tuple_new_view {Q₁ : Value → Shared → Prop} (hh : A.handled = none) (hv : s.heap.IsItemsView r d) (hm : s.heap.DictAt knd d kvs ep) (hn : kvs.length ≤ sizeLine)
    (h : ∀ (h' : Heap) (tk : Nat) (as : List Addr), (∀ b o, s.heap.get? b = some o → h'.get? b = some o) → as.length = kvs.length → PySem.W.KdxG knd kvs s.heap.objs.size h' as →
      Q₁ (.ref h'.objs.size) { s with heap := h'.push { cls := .type "tuple", data := .seq (as.map Value.ref).toArray }, toks := tk }) :
    codeAny (model prog w) A (.call (.builtin "tuple.__new__") ⟨[.type "tuple", .ref r], []⟩) (wants Q₁ E) s := by
  refine codeAny_of_tree ?_
  show wpAny _ A.in1 (do checkBuiltinCall "tuple.__new__" ⟨[.type "tuple", .ref r], []⟩; again (.builtin "tuple.__new__" ⟨[.type "tuple", .ref r], []⟩)) _ _ s
  refine wpAny_bind (wpAny_of_eq (F.newCall_tuple_1 _) (wpAny_pure ⟨plainId_quiet F.plain_tuple_new _, codeAny_builtin F.entry_tuple_new ?_⟩))
  rw [Around.under_plainId F.plain_tuple_new _]
  have hsub := sub_tuple_self
  have hinit := init_tuple_lookup
  have hmh := madeHere_tuple
  have hTI : s.TypeIs (.ref r) "dict_items" := hv.typeIs
  have hh1 : A.in1.handled = none := hh
  wp_walk using wpAny_typeOf hTI, PySem.W.kdx_collect (A := A.in1) hh1 hv hm hn
  intro h' tk as hk hl hG
  show wpAny _ _ (Builtin.Tuple.tupleExact (as.map Value.ref).toArray >>= fun v => ret v) _ _ _
  unfold Builtin.Tuple.tupleExact
  refine wpAny_bind (wpAny_newObj_type ?_ (by show (as.map Value.ref).toArray.size ≤ sizeLine; rw [List.size_toArray, List.length_map, hl]; exact hn))
  refine wpAny_pure ?_
  exact h h' tk as hk hl hG
theorem call_tuple_view {Q : Value → Shared → Prop} (hh : A.handled = none) (hv : s.heap.IsItemsView r d) (hm : s.heap.DictAt knd d kvs ep) (hn : kvs.length ≤ sizeLine)
    (hQ : ∀ (h' : Heap) (tk : Nat) (as : List Addr), (∀ b o, s.heap.get? b = some o → h'.get? b = some o) → as.length = kvs.length → PySem.W.KdxG knd kvs s.heap.objs.size h' as →
      Q (.ref h'.objs.size) { s with heap := h'.push { cls := .type "tuple", data := .seq (as.map Value.ref).toArray }, toks := tk }) :
    wpAny (model prog w) A (call (.type "tuple") [.ref r]) Q E s := by
  refine callType_codes (Q₁ := fun obj s₁ => s₁.TypeIs obj "tuple" ∧ Q obj s₁) F.called_tuple (F.typeCall_tuple_1 _) F.entry_object_init
    (code_tuple_new_view (A := A.in1) hh hv hm hn fun h' tk as hk hl hG => ⟨⟨_, Heap.get?_push_size _ rfl, rfl⟩, hQ h' tk as hk hl hG⟩) fun obj s₁ h₁ => ?_
  exact ⟨h₁.1, F.args_object_init_2 obj _, object_init_meets F.called_tuple.init.lookup F.called_tuple.made (by decide) prog w A.in1 _ s₁ ⟨h₁.1, rfl, h₁.2⟩⟩
end
section
variable {X : Cx}
def rTupView : List V → Hp → VK → Prop := fun vs H Q => ∃ (p a : Addr) (kvs : List (Key × V)), vs = [.ref p] ∧ H p = some (L2.DX.itemsO p a) ∧ H a = some (.dK kvs) ∧
  ∀ (H' : Hp) (q : Addr) (ts : List Addr), (∀ b o, H b = some o → H' b = some o) → H q = none → (∀ t ∈ ts, H t = none ∧ t ≠ q) → H' q = some (.tup (ts.map V.ref)) → Paired (fun (t : Addr) (e : Key × V) => H' t = some (.tup [kV e.1, e.2])) ts kvs → Q (.ref q) H'
theorem paired_mk {α β : Type} {F : α → β → Prop} : ∀ {xs : List α} {ys : List β}, xs.length = ys.length → (∀ (j : Nat) x y, xs[j]? = some x → ys[j]? = some y → F x y) → Paired F xs ys
  | [], [], _, _ => .nil
  | [], _ :: _, h, _ => by cases h
  | _ :: _, [], h, _ => by cases h
  | x :: xs, y :: ys, h, f => .cons (f 0 x y rfl rfl) (paired_mk (Nat.succ.inj h) fun j x y h1 h2 => f (j + 1) x y (by simpa using h1) (by simpa using h2))
theorem cr_tupView (hc : X.calm = true) : CallR X (.type "tuple") rTupView := by
  intro pins s σ H xs us Q I r h
  obtain ⟨p, a, kvs, rfl, hp, ha, q⟩ := h
  obtain rfl := Vals.ref1 r
  have view : s.heap.IsItemsView p a := (show ObjOk X.prog X.w H s.heap p (L2.DX.itemsO p a) from I.hok p _ hp).1
  obtain ⟨z, lo, vs, rel, dd⟩ := (show ObjOk X.prog X.w H s.heap a (.dK kvs) from I.hok a _ ha)
  obtain ⟨ep, hat⟩ := dd.dictAt
  have lk : kvs.length = vs.length := Paired.length rel
  refine call_tuple_view (knd := mixKind X.prog X.w) (kvs := vs) (ep := ep) (I.ok.hd hc) view hat (by rw [← lk]; exact z) fun h' tk as hk hl hG => ?_
  have I1 : Inv X pins σ H { s with heap := h', toks := tk } := I.kept hk
  have nda : as.Nodup := List.Pairwise.imp (fun h => Nat.ne_of_lt h) hG.rise
  have lss : sizeLine = 16777216 := sizeLine_eq
  obtain ⟨H2, I2, sm, tup⟩ := L2.DX.takeT (P := fun b ws => ∃ (j : Nat) (e : Key × V), as[j]? = some b ∧ kvs[j]? = some e ∧ ws = [kV e.1, e.2]) I as H I1 nda fun b hb => by
    obtain ⟨j, hj⟩ := List.mem_iff_getElem?.mp hb
    have hbl : s.heap.objs.size ≤ b := Nat.le_of_lt (hG.above b hb)
    obtain ⟨key, k, x, f1, f2, f3⟩ := hG.pairs j b hj
    obtain ⟨e, he⟩ : ∃ e, kvs[j]? = some e := by
      have : j < kvs.length := by rw [lk]; exact (List.getElem?_eq_some_iff.mp f1).1
      exact ⟨_, List.getElem?_eq_getElem this⟩
    obtain ⟨y, g1, g2, g3⟩ := LiI.paired_get rel he
    rw [f1] at g1
    cases g1
    have rk : RelV (kV e.1) key := by
      rw [g2]
      exact relV_key (show keyIs k key = true from f2)
    exact ⟨hbl, I.hok.fresh hbl, _, ⟨j, e, hj, he, rfl⟩, fun H3 => ⟨by rw [lss]; show 2 ≤ 16777216; omega, _, .cons rk (.cons g3 .nil), ⟨_, f3, rfl, 0, rfl⟩⟩⟩
  have fresh : H2 h'.objs.size = none := I2.hok.fresh (Nat.le_refl _)
  have below : ∀ b ∈ as, b ≠ h'.objs.size := fun b hb e => by
    obtain ⟨_, _, z⟩ := tup b hb
    rw [e, fresh] at z; cases z
  have I3 : Inv X pins σ (upd H2 h'.objs.size (.tup (as.map V.ref))) { s with heap := h'.push { cls := .type "tuple", data := .seq (as.map Value.ref).toArray }, toks := tk } :=
    I2.laid (t' := tk) (fun b o e => Heap.get?_push_of_some _ e) (Nat.le_refl _) (show ObjOk X.prog X.w _ _ _ (.tup (as.map V.ref)) from ⟨by rw [List.length_map, hl, ← lk]; exact z, as.map Value.ref, LiI.vals_refs as, IsTup.new _ _⟩)
  refine ⟨.ref h'.objs.size, _, I3, rfl, q _ _ as (fun b o e => ?_) ?_ (fun t ht => ⟨I.hok.fresh (Nat.le_of_lt (hG.above t ht)), below t ht⟩) upd_same (paired_mk (by rw [hl, lk]) fun j t e h1 h2 => ?_)⟩
  · have := sm b o e
    rw [upd_ne (by rintro rfl; rw [fresh] at this; cases this)]
    exact this
  · cases e : H h'.objs.size with
    | none => rfl
    | some o => rw [sm _ _ e] at fresh; cases fresh
  · have hb := List.mem_of_getElem? h1
    obtain ⟨ws, ⟨j2, e2, g1, g2, rfl⟩, e3⟩ := tup t hb
    have : j2 = j := (List.getElem?_inj (List.getElem?_eq_some_iff.mp g1).1 nda).mp (g1.trans h1.symm)
    subst this
    rw [g2] at h2; cases h2
    rw [upd_ne (below t hb)]
    exact e3
end
/-- a pair of a dict as data -/
def kvD (e : Key × D) : D := .tup [kD e.1, e.2]
def wTupIt (wo : WE) : WE := fun ρ h Q X => wo ρ h (fun x h1 => ∃ kvs, dkOf h1 x = some kvs ∧ Q (.tup (kvs.map kvD)) h1) X
section
variable {X : Cx} {E : XK} {gz : Bool} {k : Nat} {o : Expr} {wo : WE} {apos cpos pos : Pos}
theorem dk_tyV {K : PySem.W.Frag} {H : Hp} {a : Addr} {vs : List (Key × V)} (hu : H a = some (.dK vs)) : tyV K "dict" (.ref a) H := .inr (.inr (.inl ⟨rfl, .inl ⟨_, hu⟩⟩))
theorem ae_tupIt {pn : Pos} (hm : X.mg "tuple" = none) (c : Cg gz X E k) (ho : AE X E o wo) (hg : Gl X "tuple" := by rfl)
    (hbase : attributeBase o "items" X.env (eval o X.env) = eval o X.env := by rfl)
    (hline : (apos.endLine == cpos.line) = true := by rfl)
    (hst : starEach [Expr.Call (.Attribute o "items" apos) [] [] cpos] X.env = (false, eval (.Call (.Attribute o "items" apos) [] [] cpos) X.env) :: starEach [] X.env := by rfl)
    (hpl : (backTo pos (starEach [] X.env)).any (·.1) = false := by rfl) :
    AE X E (.Call (.Name "tuple" pn) [.Call (.Attribute o "items" apos) [] [] cpos] [] pos) (wTupIt wo) := by
  have P1 := pe_bm0 (cpos := cpos) (apos := apos) PySem.F.plainAttrs_dict PySem.F.slot_dict_items PySem.F.type_dict_items (mt_itemsV (X := X)) ho.run hbase hline
  have P2 := pe_callTy (pos := pos) (p := pn) (cr_tupView c.calm) hg hm bb_tuple (pa_cons P1 pa_nil hst) (he := hst) (hpl := hpl)
  refine ⟨PE.imp P2 fun σ H Q ⟨F, ρ, h, S, R, q⟩ => ?_, fun ρ h Q Q' X X' hq hx q => ho.mo _ _ _ _ _ _ (fun x h1 ⟨kvs, e1, z⟩ => ⟨kvs, e1, hq _ _ z⟩) hx q⟩
  refine ⟨F, ρ, h, S, R, ho.mo _ _ _ _ _ _ (fun x h1 z => ?_) (fun _ _ z => z) q⟩
  intro F1 H1 v e1 S1 r
  obtain ⟨kvs, ea, z⟩ := z
  obtain ⟨a, vs, rfl, hu, rs⟩ := S1.dkOf r ea
  refine ⟨dk_tyV hu, a, vs, rfl, rfl, hu, fun p hp => ?_⟩
  have na : a ≠ p := by rintro rfl; rw [hu] at hp; cases hp
  refine ⟨p, a, vs, rfl, upd_same, by rw [upd_ne na]; exact hu, fun H' l ts sm hl nl hL hT => ?_⟩
  have sm1 : ∀ b o, H1 b = some o → H' b = some o := fun b o e => sm b o (by rw [upd_ne (by rintro rfl; rw [hp] at e; cases e)]; exact e)
  have hl1 : H1 l = none := by
    by_cases c : l = p
    · rw [c]; exact hp
    · rw [upd_ne c] at hl; exact hl
  obtain ⟨F2, x2, S2, g2, g3⟩ := S1.grow sm1 (fun b => true)
  have hn : ∀ t ∈ ts, H1 t = none := fun t ht => by
    obtain ⟨n1, n2⟩ := nl t ht
    by_cases c : t = p
    · rw [c]; exact hp
    · rw [upd_ne c] at n1; exact n1
  have rsT : ∀ (ts : List Addr) (kvs : List (Key × D)) (vs : List (Key × V)), (∀ t ∈ ts, H1 t = none) → RepK X.K F1 kvs vs → Paired (fun (t : Addr) (e : Key × V) => H' t = some (.tup [kV e.1, e.2])) ts vs → Reps X.K F2 (kvs.map kvD) (ts.map V.ref) := by
    intro ts
    induction ts with
    | nil => intro kvs vs _ r pr; cases pr; cases r; exact .nil
    | cons t ts ih =>
      intro kvs vs hn r pr
      cases pr with
      | cons p1 p2 =>
        cases r with
        | cons r1 r2 => exact .cons (.tup (.of ((g2 t (hn t (List.mem_cons_self ..)) rfl).trans p1)) (.cons (kD_rep _) (.cons (r1.ext x2) .nil))) (ih _ _ (fun w hw => hn w (List.mem_cons_of_mem _ hw)) r2 p2)
  exact z F2 H' _ (e1.trans x2) S2 (.tup (.of ((g2 l hl1 rfl).trans hL)) (rsT ts kvs vs hn rs hT))
end
end DL
namespace DL
open PySem PySem.Spec L2 C8
/-! ### what a class gives, bundled -/
section
variable (P : Program) (w : World) (K : PySem.W.Frag) (mg : Str → Option Value) (base : Heap)
structure MakC (x : Str) (C : Addr) (k : Nat) (S : FSpec) : Prop where
  ex : ∃ fI, Mk K C fI ∧ FnRD P w K mg base k fI S
  mo : MoF S
  at_ : mg x = some (.ref C)
structure PrpC (C : Addr) (f : Str) (k : Nat) (S : FSpec) : Prop where
  cl : Cls K C
  ex : ∃ pa g fd ps, PropOf K C f pa g ∧ FnG false P w K mg base k g fd ps S ∧ Binds K fd ps []
structure MetC (C : Addr) (f : Str) (k : Nat) (S : FSpec) : Prop where
  cl : Cls K C
  ex : ∃ g, Meth K C f g ∧ FnRD P w K mg base k g S
  mo : MoF S
structure CalC (C : Addr) (k : Nat) (S : FSpec) : Prop where
  ex : ∃ g, StX.CallO K C g ∧ FnRD P w K mg base k g S
  mo : MoF S
structure Op2C (C : Addr) (op : Operator) (k : Nat) (S : FSpec) : Prop where
  sf : PySem.W.selfFirst K C = true
  ex : ∃ g, PySem.W.findIn K (.ref C) (PySem.dunder op.info.2) = some (some (.ref g)) ∧ PySem.W.isFn K (.ref g) = true ∧ FnRD P w K mg base k g S
  mo : MoF S
structure IxC (C : Addr) (k : Nat) (S : FSpec) : Prop where
  ex : ∃ g, PySem.W.findIn K (.ref C) "__getitem__" = some (some (.ref g)) ∧ PySem.W.fnIn K g = true ∧ PySem.W.isFn K (.ref g) = true ∧ FnRD P w K mg base k g S
  mo : MoF S
end
section
variable {X : Cx} {E : XK} {gz : Bool} {k j : Nat} {o a b e fe : Expr} {es : List Expr} {wo wa wb we : WE} {wl : WA} {pos apos p sp_ : Pos} {f x m : Str} {C : Addr} {S : FSpec} {op : Operator}
theorem ag_make (c : Cg gz X E k) (M : MakC X.prog X.w X.K X.mg X.base x C j S) (hj : j + 1 ≤ k) (ha : AA X E (e :: es) wl)
    (hg : Gl X x := by rfl) (hdb : (x == ("__debug__" : Str)) = false := by decide) (he : starEach (e :: es) X.env = (false, eval e X.env) :: starEach es X.env := by rfl)
    (hpl : (backTo pos (starEach es X.env)).any (·.1) = false := by rfl) : AE X E (.Call (.Name x p) (e :: es) [] pos) (wMake C S wl) := by
  obtain ⟨fI, h1, h2⟩ := M.ex
  exact ae_make c h1 h2 M.mo hj M.at_ ha hg hdb he hpl
theorem ag_make0 (c : Cg gz X E k) (M : MakC X.prog X.w X.K X.mg X.base x C j S) (hj : j + 1 ≤ k)
    (hg : Gl X x := by rfl) (hdb : (x == ("__debug__" : Str)) = false := by decide) : AE X E (.Call (.Name x p) [] [] pos) (wMake C S wNil) := by
  obtain ⟨fI, h1, h2⟩ := M.ex
  exact ae_make0 c h1 h2 M.mo hj M.at_ hg hdb
theorem ag_makeS (c : Cg gz X E k) (M : MakC X.prog X.w X.K X.mg X.base x C j S) (hj : j + 1 ≤ k) (he : AE X E e we)
    (hg : Gl X x := by rfl) (hdb : (x == ("__debug__" : Str)) = false := by decide) (hst : starEach [.Starred e sp_] X.env = [(true, eval e X.env)] := by rfl) : AE X E (.Call (.Name x p) [.Starred e sp_] [] pos) (wMakeS C S we) := by
  obtain ⟨fI, h1, h2⟩ := M.ex
  exact ae_makeS c h1 h2 M.mo hj M.at_ he hg hdb hst
theorem ag_prop (c : Cg gz X E k) (R : PrpC X.prog X.w X.K X.mg X.base C f j S) (hj : j + 1 ≤ k) (ho : AE X E o wo)
    (hab : attributeBase o f X.env (eval o X.env) = eval o X.env := by rfl) : AE X E (.Attribute o f pos) (wProp C S wo) := by
  obtain ⟨pa, g, fd, ps, h1, h2, h3⟩ := R.ex
  exact ae_prop c R.cl h1 h2 h3 hj ho hab
theorem ag_met {pl : Sem Bool} (c : Cg gz X E k) (R : MetC X.prog X.w X.K X.mg X.base C m j S) (hj : j ≤ k) (ho : AE X E o wo) (ha : AA X E (e :: es) wl)
    (hst : starEach (e :: es) X.env = (false, eval e X.env) :: starEach es X.env := by rfl) (hpl : (backTo pos (starEach es X.env)).any (·.1) = false := by rfl)
    (ht : eval (.Call (.Attribute o m apos) (e :: es) [] pos) X.env = (do let ov ← eval o X.env; standAt apos.atName; let (f, first) ← holding [ov] (getMethod ov m pl); callWith pos f first (backTo pos (starEach (e :: es) X.env)) (backToKw pos (keywordEach [] X.env))) := by rfl) : AE X E (.Call (.Attribute o m apos) (e :: es) [] pos) (wMet C m S wo wl) := by
  obtain ⟨g, h1, h2⟩ := R.ex
  exact ae_met (pl := pl) c R.cl h1 h2 R.mo hj ho ha hst hpl ht
theorem ag_met0 {pl : Sem Bool} (c : Cg gz X E k) (R : MetC X.prog X.w X.K X.mg X.base C m j S) (hj : j ≤ k) (ho : AE X E o wo)
    (ht : eval (.Call (.Attribute o m apos) [] [] pos) X.env = (do let ov ← eval o X.env; standAt apos.atName; let (f, first) ← holding [ov] (getMethod ov m pl); callWith pos f first (backTo pos (starEach [] X.env)) (backToKw pos (keywordEach [] X.env))) := by rfl) : AE X E (.Call (.Attribute o m apos) [] [] pos) (wMet C m S wo wNil) := by
  obtain ⟨g, h1, h2⟩ := R.ex
  exact ae_met0 (pl := pl) c R.cl h1 h2 R.mo hj ho ht
def wCalO (C : Addr) (S : FSpec) (wo : WE) (wl : WA) : WE := wCallO C S (fun ρ h Q X => wo ρ h (fun y h1 => (∃ fs, insOf h1 y = some (C, fs)) ∧ Q y h1) X) wl
theorem ag_callO (c : Cg gz X E k) (R : CalC X.prog X.w X.K X.mg X.base C j S) (hj : j ≤ k) (hf : AE X E fe wo) (ha : AA X E (e :: es) wl)
    (ht : eval (.Call fe (e :: es) [] pos) X.env = (do callWith pos (← eval fe X.env) [] (backTo pos (starEach (e :: es) X.env)) (backToKw pos (keywordEach [] X.env))) := by rfl)
    (he : starEach (e :: es) X.env = (false, eval e X.env) :: starEach es X.env := by rfl) (hpl : (backTo pos (starEach es X.env)).any (·.1) = false := by rfl) : AE X E (.Call fe (e :: es) [] pos) (wCalO C S wo wl) := by
  obtain ⟨g, h1, h2⟩ := R.ex
  exact ae_callO c h1 h2 R.mo hj hf ha (fun _ _ _ _ => trivial) ht he hpl
theorem ag_own2 (c : Cg gz X E k) (R : Op2C X.prog X.w X.K X.mg X.base C op j S) (hj : j ≤ k) (ha : AE X E a wa) (hb : AE X E b wb) : AE X E (.BinOp a op b pos) (wOp (dOwn2 C S) wa wb) := by
  obtain ⟨g, h1, h2, h3⟩ := R.ex
  exact ae_own2 c R.sf h1 h2 h3 R.mo hj ha hb
theorem ag_ixOwn (c : Cg gz X E k) (R : IxC X.prog X.w X.K X.mg X.base C j S) (hj : j + 1 ≤ k)
    (ha : AE X E a wa) (hb : AE X E b wb) (hs : ∀ v u, subscripted b true v u = runValue (.builtin "lifetime.subscript" ⟨[v, u], []⟩) := by intro _ _; rfl) : AE X E (.Subscript a b pos) (wOp (dIxOwn C S) wa wb) := by
  obtain ⟨g, h1, h2, h3, h4⟩ := R.ex
  exact ae_ixOwn c h1 h2 h3 h4 R.mo hj ha hb hs
end
/-! ### how the readings unfold -/
section
variable {ρ : EnvD} {h : AH} {Q : KD} {X : KX} {D0 : EndsD} {a b wo wv : WE} {wl wk : WA} {C : Addr} {S : FSpec} {f m : Str} {fs : List (Str × D)} {x y : D} {mm : Bool}
theorem u_prop : wProp C S wo ρ h Q X = wo ρ h (fun x h1 => isI C x h1 ∧ S [x] h1 Q (fun _ _ => False)) X := rfl
theorem u_fld : wFld C f wo ρ h Q X = wo ρ h (fun x h1 => ∃ fs d, insOf h1 x = some (C, fs) ∧ fs.lookup f = some d ∧ Q d h1) X := rfl
theorem u_setF : wSetF C f wo wv D0 ρ h = wv ρ h (fun z h1 => wo ρ h1 (fun x h2 => ∃ a fs, x = .ref a ∧ h2 a = some (.ins C fs) ∧ fs.length < 1000 ∧ D0.nx ρ (up h2 a (.ins C (putFD f z fs)))) D0.ex) D0.ex := rfl
theorem u_make : wMake C S wl ρ h Q X = wl ρ h (fun ds h1 => ∀ a, h1 a = none → S (.ref a :: ds) (up h1 a (.ins C [])) (fun v h2 => v = .non ∧ ∃ fs, h2 a = some (.ins C fs) ∧ Q (.ob C fs) (rm h2 a)) X) X := rfl
theorem u_makeS : wMakeS C S wo ρ h Q X = wo ρ h (fun y h1 => ∃ ds, seqOf h1 y = some ds ∧ ∀ a, h1 a = none → S (.ref a :: ds) (up h1 a (.ins C [])) (fun v h2 => v = .non ∧ ∃ fs, h2 a = some (.ins C fs) ∧ Q (.ob C fs) (rm h2 a)) X) X := rfl
theorem u_met : wMet C m S wo wl ρ h Q X = wo ρ h (fun x h1 => ∃ fs, insOf h1 x = some (C, fs) ∧ fs.lookup m = none ∧ wl ρ h1 (fun ds h2 => S (x :: ds) h2 Q X) X) X := rfl
theorem u_calO : wCalO C S wo wl ρ h Q X = wo ρ h (fun y h1 => (∃ fs, insOf h1 y = some (C, fs)) ∧ wl ρ h1 (fun ds h2 => (∃ fs, insOf h2 y = some (C, fs)) ∧ S (y :: ds) h2 Q X) X) X := rfl
theorem u_own2 : dOwn2 C S x y h Q = (isI C x h ∧ isI C y h ∧ S [x, y] h Q (fun _ _ => False)) := rfl
theorem u_ixOwn : dIxOwn C S x y h Q = (isI C x h ∧ S [x, y] h Q (fun _ _ => False)) := rfl
theorem u_insOb : insOf h (.ob C fs) = some (C, fs) := rfl
theorem u_isI : isI C (.ob C fs) h = True := by simp [isI, insOf]
theorem u_orT : wOrT a b ρ h Q X = a ρ h (fun x h1 => ∃ k, truD h1 x = some k ∧ if k = true then Q x h1 else b ρ h1 Q X) X := rfl
theorem u_tupIt : wTupIt wo ρ h Q X = wo ρ h (fun x h1 => ∃ kvs, dkOf h1 x = some kvs ∧ Q (.tup (kvs.map kvD)) h1) X := rfl
theorem u_dkK {kvs : List (Key × D)} : dkOf h (.dK kvs) = some kvs := rfl
theorem u_dnew : wDnew ρ h Q X = ∀ p, h p = none → Q (.ref p) (up h p (.dK [])) := rfl
theorem u_dput {wi : WE} : wDput wo wi wv D0 ρ h = wv ρ h (fun z h1 => wo ρ h1 (fun x h2 => wi ρ h2 (fun y h3 => ∃ a kvs k, x = .ref a ∧ h3 a = some (.dK kvs) ∧ keyD y = some k ∧ kvs.length < sizeLine ∧ D0.nx ρ (up h3 a (.dK (putD kvs k z)))) D0.ex) D0.ex) D0.ex := rfl
theorem u_get2 {wi wx : WE} : wGet2 wo wi wx ρ h Q X = wo ρ h (fun x h1 => (dkOf h1 x).isSome = true ∧ wi ρ h1 (fun y h2 => wx ρ h2 (fun z h3 => ∃ kvs k, dkOf h3 x = some kvs ∧ keyD y = some k ∧ Q ((valD kvs k).getD z) h3) X) X) X := rfl
theorem u_dget {wi : WE} : wDGet wo wi ρ h Q X = wo ρ h (fun x h1 => wi ρ h1 (fun y h2 => ∃ kvs k d, dkOf h2 x = some kvs ∧ keyD y = some k ∧ valD kvs k = some d ∧ Q d h2) X) X := rfl
theorem u_keyI {i : Int} : keyD (.int i) = some (Sum.inl i) := rfl
theorem u_isi {n : String} : dIsi [x, .ty n] h Q = ∃ t b, tyD h x = some t ∧ L2.kitB t n = some b ∧ Q (.bl b) h := by
  unfold dIsi
  refine propext ⟨?_, ?_⟩
  · rintro ⟨x', t, n', b, e, h1, h2, q⟩
    cases e; exact ⟨t, b, h1, h2, q⟩
  · rintro ⟨t, b, h1, h2, q⟩
    exact ⟨x, t, n, b, rfl, h1, h2, q⟩
theorem u_tupP {ds : List D} : dTupP ds h Q = ∃ x xs, ds = [x] ∧ lstOf h x = some xs ∧ Q (.tpl xs) h := rfl
theorem u_numL {l : WA} {R : List D → (AH → Prop) → AH → Prop} : iNumL l ρ h R X = iNumL l ρ h R X := rfl
theorem u_dc {m : Bool} {wi : WI} {g : WG} {tt : WT} {tk tv : WE} {vs : List Nat} : wDc m wi g tt tk tv vs ρ h Q X = wi ρ h (fun xs st h1 => ∀ p, h1 p = none → dcD st g tt tk tv vs ρ p xs (up h1 p (.dK [])) (endK m p Q)) X := rfl
theorem u_maxDd : wMaxDd wl wk ρ h Q X = wl ρ h (fun xs h1 => wk ρ h1 (fun zs h2 => ∃ (x z : D) (kvs : List (Key × D)) (ks : List Int), xs = [x] ∧ zs = [z] ∧ dkOf h2 x = some kvs ∧ kvs.map (·.1) = ks.map Sum.inl ∧ (ks = [] → Q z h2) ∧ ∀ m, m ∈ ks → (∀ y ∈ ks, y ≤ m) → Q (.int m) h2) X) X := rfl
end
end DL
namespace DL
open PySem PySem.Spec L2 C8
/-! ### lists of pairs of ints as dicts and ledgers: plain theory -/
abbrev Prs := List (Int × Int)
def getI (es : Prs) (k : Int) : Int := ((es.find? fun e => decide (e.1 = k)).map (·.2)).getD 0
def hasI (es : Prs) (k : Int) : Bool := es.any fun e => decide (e.1 = k)
def putI (es : Prs) (k v : Int) : Prs := if hasI es k then es.map (fun e => if e.1 = k then (e.1, v) else e) else es ++ [(k, v)]
def amt (es : Prs) (k : Int) : Int := (es.map fun e => if e.1 = k then e.2 else 0).sum
theorem hasI_iff {es : Prs} {k : Int} : hasI es k = true ↔ ∃ v, (k, v) ∈ es := by
  unfold hasI
  rw [List.any_eq_true]
  constructor
  · rintro ⟨e, h, c⟩
    have : e.1 = k := by simpa using c
    exact ⟨e.2, by rw [← this]; exact h⟩
  · rintro ⟨v, h⟩
    exact ⟨_, h, by simp⟩
theorem hasI_keys {es : Prs} {k : Int} : hasI es k = true ↔ k ∈ es.map (·.1) := by
  rw [hasI_iff, List.mem_map]
  exact ⟨fun ⟨v, h⟩ => ⟨_, h, rfl⟩, fun ⟨e, h, c⟩ => ⟨e.2, by rw [← c]; exact h⟩⟩
theorem keys_put {es : Prs} {k v : Int} : (putI es k v).map (·.1) = if hasI es k then es.map (·.1) else es.map (·.1) ++ [k] := by
  unfold putI
  split
  · rw [List.map_map]
    apply List.map_congr_left
    intro e _
    show (if e.1 = k then (e.1, v) else e).1 = e.1
    split <;> rfl
  · simp
theorem nodup_put {es : Prs} {k v : Int} (h : (es.map (·.1)).Nodup) : ((putI es k v).map (·.1)).Nodup := by
  rw [keys_put]
  split
  · exact h
  · rename_i c
    rw [List.nodup_append]
    refine ⟨h, by simp, fun a ha b hb e => ?_⟩
    have : b = k := by simpa using hb
    subst this
    subst e
    exact c (hasI_keys.mpr ha)
theorem len_put {es : Prs} {k v : Int} : (putI es k v).length ≤ es.length + 1 := by
  unfold putI; split <;> simp
theorem mem_put {es : Prs} {k v : Int} {f : Int × Int} (h : f ∈ putI es k v) : f ∈ es ∨ f = (k, v) := by
  unfold putI at h
  split at h
  · obtain ⟨e, he, rfl⟩ := List.mem_map.mp h
    by_cases c : e.1 = k
    · right; simp [c]
    · left; simpa [c] using he
  · rcases List.mem_append.mp h with h | h
    · exact .inl h
    · exact .inr (by simpa using h)
theorem getI_cons {e : Int × Int} {es : Prs} {k : Int} : getI (e :: es) k = if e.1 = k then e.2 else getI es k := by
  unfold getI
  rw [List.find?_cons]
  by_cases c : e.1 = k <;> simp [c]
theorem getI_no {es : Prs} {k : Int} (h : hasI es k = false) : getI es k = 0 := by
  induction es with
  | nil => rfl
  | cons e es ih =>
    have h : (decide (e.1 = k) || hasI es k) = false := h
    rw [Bool.or_eq_false_iff] at h
    rw [getI_cons, if_neg (by simpa using h.1), ih h.2]
theorem getI_mem {es : Prs} (nd : (es.map (·.1)).Nodup) {k v : Int} (h : (k, v) ∈ es) : getI es k = v := by
  induction es with
  | nil => cases h
  | cons e es ih =>
    rw [getI_cons]
    rw [List.map_cons, List.nodup_cons] at nd
    rcases List.mem_cons.mp h with rfl | h
    · simp
    · have : e.1 ≠ k := fun c => nd.1 (by rw [c]; exact List.mem_map.mpr ⟨_, h, rfl⟩)
      rw [if_neg this]; exact ih nd.2 h
theorem getI_append {es fs : Prs} {k : Int} : getI (es ++ fs) k = if hasI es k then getI es k else getI fs k := by
  induction es with
  | nil => simp [hasI]
  | cons e es ih =>
    rw [List.cons_append, getI_cons, getI_cons, ih]
    have : hasI (e :: es) k = (decide (e.1 = k) || hasI es k) := rfl
    rw [this]
    by_cases c : e.1 = k <;> simp [c]
theorem getI_put {es : Prs} {k v j : Int} : getI (putI es k v) j = if j = k then v else getI es j := by
  unfold putI
  split
  · rename_i c
    by_cases e : j = k
    · subst e
      rw [if_pos rfl]
      induction es with
      | nil => cases c
      | cons e es ih =>
        rw [List.map_cons, getI_cons]
        by_cases d : e.1 = j
        · simp [d]
        · have c : (decide (e.1 = j) || hasI es j) = true := c
          rw [if_neg d, if_neg d]
          exact ih (by simpa [d] using c)
    · rw [if_neg e]
      clear c
      induction es with
      | nil => rfl
      | cons x es ih =>
        rw [List.map_cons, getI_cons, getI_cons, ih]
        by_cases d : x.1 = k
        · rw [if_pos d]
          show (if x.1 = j then v else getI es j) = _
          rw [if_neg (fun z => e (z.symm.trans d)), if_neg (fun z => e (z.symm.trans d))]
        · rw [if_neg d]
  · rename_i c
    rw [getI_append, getI_cons]
    by_cases e : j = k
    · subst e; rw [if_pos rfl, if_neg c, if_pos rfl]
    · rw [if_neg e, if_neg (show ¬ (k, v).1 = j from fun z => e z.symm)]
      by_cases d : hasI es j = true
      · rw [if_pos d]
      · rw [if_neg d]
        exact (getI_no (es := es) (by simpa using d)).symm
theorem amt_cons {e : Int × Int} {es : Prs} {k : Int} : amt (e :: es) k = (if e.1 = k then e.2 else 0) + amt es k := by
  unfold amt; rw [List.map_cons, List.sum_cons]
theorem amt_append {es fs : Prs} {k : Int} : amt (es ++ fs) k = amt es k + amt fs k := by
  unfold amt; rw [List.map_append, List.sum_append]
theorem amt_nil {k : Int} : amt [] k = 0 := rfl
theorem amt_get {es : Prs} (nd : (es.map (·.1)).Nodup) {k : Int} : amt es k = getI es k := by
  induction es with
  | nil => rfl
  | cons e es ih =>
    rw [List.map_cons, List.nodup_cons] at nd
    rw [amt_cons, getI_cons, ih nd.2]
    split
    · rename_i c
      rw [getI_no, Int.add_zero]
      cases h : hasI es k with
      | false => rfl
      | true => exact absurd (hasI_keys.mp h) (by rw [← c]; exact nd.1)
    · exact Int.zero_add _
/-- es is the ledger of the amounts A -/
structure Led (es : Prs) (A : Int → Int) : Prop where
  pw : es.Pairwise (fun a b => a.1 < b.1)
  mem : ∀ k v, (k, v) ∈ es ↔ (v = A k ∧ v ≠ 0)
theorem pw_nodup {es : Prs} (h : es.Pairwise (fun a b => a.1 < b.1)) : (es.map (·.1)).Nodup := by
  rw [List.nodup_iff_pairwise_ne, List.pairwise_map]
  exact h.imp fun h => by omega
theorem pw_ext : ∀ {es fs : Prs}, es.Pairwise (fun a b => a.1 < b.1) → fs.Pairwise (fun a b => a.1 < b.1) → (∀ e, e ∈ es ↔ e ∈ fs) → es = fs
  | [], [], _, _, _ => rfl
  | [], f :: fs, _, _, h => absurd ((h f).mpr (List.mem_cons_self ..)) (by simp)
  | e :: es, [], _, _, h => absurd ((h e).mp (List.mem_cons_self ..)) (by simp)
  | e :: es, f :: fs, h1, h2, h => by
    rw [List.pairwise_cons] at h1 h2
    have ef : e = f := by
      rcases List.mem_cons.mp ((h e).mp (List.mem_cons_self ..)) with z | z
      · exact z
      · rcases List.mem_cons.mp ((h f).mpr (List.mem_cons_self ..)) with y | y
        · exact y.symm
        · have a1 := h2.1 e z
          have a2 := h1.1 f y
          omega
    subst ef
    rw [pw_ext h1.2 h2.2 fun x => ?_]
    have hx := h x
    rw [List.mem_cons, List.mem_cons] at hx
    constructor
    · intro m
      rcases hx.mp (.inr m) with rfl | z
      · exact absurd (h1.1 _ m) (by omega)
      · exact z
    · intro m
      rcases hx.mpr (.inr m) with rfl | z
      · exact absurd (h2.1 _ m) (by omega)
      · exact z
theorem Led.unique {es fs : Prs} {A : Int → Int} (h1 : Led es A) (h2 : Led fs A) : es = fs :=
  pw_ext h1.pw h2.pw fun ⟨k, v⟩ => by rw [h1.mem, h2.mem]
/-- a list that stands as a ledger does -/
def Std (es : Prs) : Prop := es.Pairwise (fun a b => a.1 < b.1) ∧ ∀ e ∈ es, e.2 ≠ 0
theorem Led.std {es : Prs} {A : Int → Int} (h : Led es A) : Std es := ⟨h.pw, fun e he => ((h.mem e.1 e.2).mp he).2⟩
theorem Std.led {es : Prs} (h : Std es) : Led es (amt es) := by
  have nd := pw_nodup h.1
  refine ⟨h.1, fun k v => ?_⟩
  rw [amt_get nd]
  constructor
  · intro m; exact ⟨(getI_mem nd m).symm, h.2 _ m⟩
  · rintro ⟨rfl, n⟩
    cases c : hasI es k with
    | false => exact absurd (getI_no c) n
    | true =>
      obtain ⟨v, m⟩ := hasI_iff.mp c
      rw [getI_mem nd m]; exact m
theorem Led.eqA {es : Prs} {A : Int → Int} (h : Led es A) : amt es = A := by
  funext k
  have nd := pw_nodup h.pw
  rw [amt_get nd]
  by_cases z : A k = 0
  · rw [z]
    refine getI_no ?_
    cases c : hasI es k with
    | false => rfl
    | true =>
      obtain ⟨v, m⟩ := hasI_iff.mp c
      obtain ⟨e1, e2⟩ := (h.mem _ _).mp m
      exact absurd (e1.trans z) e2
  · exact getI_mem nd ((h.mem _ _).mpr ⟨rfl, z⟩)
theorem Led.of_amt {es : Prs} {A B : Int → Int} (h : Led es A) (e : ∀ k, A k = B k) : Led es B := by
  have : A = B := funext e
  subst this; exact h
/-- the keys in order, those that count -/
def keyed (A : Int → Int) (ys : List Int) : Prs := ys.filterMap fun k => if A k ≠ 0 then some (k, A k) else none
theorem keyed_led {A : Int → Int} {ys : List Int} (pw : ys.Pairwise (· ≤ ·)) (nd : ys.Nodup) (all : ∀ k, A k ≠ 0 → k ∈ ys) : Led (keyed A ys) A := by
  have lt : ys.Pairwise (· < ·) := by
    have := List.Pairwise.and pw (List.nodup_iff_pairwise_ne.mp nd)
    exact this.imp fun ⟨a, b⟩ => by omega
  refine ⟨?_, fun k v => ?_⟩
  · unfold keyed
    rw [List.pairwise_filterMap]
    refine lt.imp ?_
    intro a b h x hx y hy
    have hx : (if A a ≠ 0 then some (a, A a) else none) = some x := hx
    have hy : (if A b ≠ 0 then some (b, A b) else none) = some y := hy
    split at hx
    · split at hy
      · cases hx; cases hy; exact h
      · cases hy
    · cases hx
  · unfold keyed
    rw [List.mem_filterMap]
    constructor
    · rintro ⟨a, m, e⟩
      split at e
      · cases e; rename_i c; exact ⟨rfl, c⟩
      · cases e
    · rintro ⟨rfl, n⟩
      exact ⟨k, all k n, by rw [if_pos n]⟩
theorem keyed_len {A : Int → Int} {ys : List Int} : (keyed A ys).length ≤ ys.length := List.length_filterMap_le ..
theorem keyed_mem {A : Int → Int} {ys : List Int} {e : Int × Int} (h : e ∈ keyed A ys) : e.1 ∈ ys := by
  unfold keyed at h
  rw [List.mem_filterMap] at h
  obtain ⟨a, m, e⟩ := h
  split at e
  · cases e; exact m
  · cases e
/-! ### the same as data -/
theorem valD_toK (es : Prs) (k : Int) : valD (toK es) (Sum.inl k) = (es.find? fun e => decide (e.1 = k)).map fun e => D.int e.2 := by
  unfold valD toK
  rw [List.find?_map]
  have : ((fun kv : Key × D => decide (kv.1 = Sum.inl k)) ∘ fun e : Int × Int => ((Sum.inl e.1 : Key), D.int e.2)) = fun e => decide (e.1 = k) := by
    funext e
    show decide ((Sum.inl e.1 : Key) = Sum.inl k) = decide (e.1 = k)
    simp
  rw [this, Option.map_map]
  rfl
theorem val_getD (es : Prs) (k : Int) : (valD (toK es) (Sum.inl k)).getD (.int 0) = .int (getI es k) := by
  rw [valD_toK]
  unfold getI
  cases es.find? fun e => decide (e.1 = k) <;> rfl
theorem val_some {es : Prs} {k : Int} (h : k ∈ es.map (·.1)) : valD (toK es) (Sum.inl k) = some (.int (getI es k)) := by
  rw [valD_toK]
  unfold getI
  cases e : es.find? fun e => decide (e.1 = k) with
  | some x => rfl
  | none =>
    obtain ⟨x, hx, rfl⟩ := List.mem_map.mp h
    have := List.find?_eq_none.mp e x hx
    simp at this
theorem putD_toK (es : Prs) (k v : Int) : putD (toK es) (Sum.inl k) (.int v) = toK (putI es k v) := by
  unfold putD putI
  have c : ((toK es).any fun kv => decide (kv.1 = (Sum.inl k : Key))) = hasI es k := by
    unfold toK hasI
    rw [List.any_map]
    congr 1
    funext e
    show decide ((Sum.inl e.1 : Key) = Sum.inl k) = decide (e.1 = k)
    simp
  rw [c]
  split
  · unfold toK
    rw [List.map_map, List.map_map]
    apply List.map_congr_left
    intro e _
    show (if (Sum.inl e.1 : Key) = Sum.inl k then ((Sum.inl e.1 : Key), D.int v) else (Sum.inl e.1, D.int e.2)) = ((Sum.inl (if e.1 = k then (e.1, v) else e).1 : Key), D.int (if e.1 = k then (e.1, v) else e).2)
    by_cases z : e.1 = k
    · rw [if_pos (by rw [z]), if_pos z]
    · rw [if_neg (by intro y; exact z (Sum.inl.inj y)), if_neg z]
  · simp [toK]
theorem toK_keys (es : Prs) : (toK es).map (·.1) = (es.map (·.1)).map Sum.inl := by
  unfold toK; rw [List.map_map, List.map_map]; rfl
theorem toK_kD (es : Prs) : (toK es).map (fun kv => kD kv.1) = (es.map (·.1)).map D.int := by
  unfold toK; rw [List.map_map, List.map_map]; rfl
theorem toK_kv (es : Prs) : (toK es).map kvD = es.map pairD := by
  unfold toK; rw [List.map_map]; rfl
theorem toK_len (es : Prs) : (toK es).length = es.length := by simp [toK]
/-- a ledger as data -/
def ledD (C : Addr) (es : Prs) : D := .ob C [("amounts", .dK (toK es))]
theorem ledD_ins {C : Addr} {es : Prs} {h : AH} : insOf h (ledD C es) = some (C, [(("amounts" : Str), D.dK (toK es))]) := rfl
theorem ledD_isI {C : Addr} {es : Prs} {h : AH} : isI C (ledD C es) h := ⟨_, rfl⟩
/-- the sum over a ledger at a capacity -/
def lenAt (es : Prs) (c : Int) : Int := (es.map fun e => e.2 * (e.1 % c)).sum
end DL
namespace DL
open PySem PySem.Spec L2 C8
/-! ### dict comprehensions over what does not change -/
def dstep (f : D → Option (Key × D)) (acc : List (Key × D)) (x : D) : List (Key × D) := match f x with
  | some e => putD acc e.1 e.2
  | none => acc
theorem dstep_len {f : D → Option (Key × D)} {acc : List (Key × D)} {x : D} : (dstep f acc x).length ≤ acc.length + 1 := by
  unfold dstep
  split
  · unfold putD; split <;> simp
  · omega
theorem dfold_len {f : D → Option (Key × D)} : ∀ (xs : List D) (acc : List (Key × D)), (xs.foldl (dstep f) acc).length ≤ acc.length + xs.length
  | [], _ => by simp
  | x :: xs, acc => by
    have h1 := dfold_len (f := f) xs (dstep f acc x)
    have h2 := dstep_len (f := f) (acc := acc) (x := x)
    simp only [List.foldl_cons, List.length_cons]
    omega
theorem dc_pure {st : AH → Prop} {g : WG} {tt : WT} {tk tv : WE} {vs : List Nat} {ρ : EnvD} {p : Addr} {xs : List D} {h : AH} {Q : AH → Prop} (f : D → Option (Key × D)) (hst : ∀ acc, st (up h p (.dK acc))) (hl : xs.length ≤ sizeLine)
    (hs : ∀ x acc (K : AH → Prop), x ∈ xs → acc.length < sizeLine → K (up h p (.dK (dstep f acc x))) → g x (wipeD ρ vs) (up h p (.dK acc)) (fun ρ2 h2 => tt ρ2 h2 (fun b h3 => if b = true then tk ρ2 h3 (fun y h4 => tv ρ2 h4 (fun z h5 => ∃ kvs k, keyD y = some k ∧ h5 p = some (.dK kvs) ∧ kvs.length < sizeLine ∧ K (up h5 p (.dK (putD kvs k z)))) (fun _ _ => False)) (fun _ _ => False) else K h3) (fun _ _ => False)) (fun _ _ => False))
    (hd : Q (up h p (.dK (xs.foldl (dstep f) [])))) : dcD st g tt tk tv vs ρ p xs (up h p (.dK [])) Q := by
  suffices H : ∀ (ys : List D) (acc : List (Key × D)), (∀ y ∈ ys, y ∈ xs) → acc.length + ys.length ≤ sizeLine → Q (up h p (.dK (ys.foldl (dstep f) acc))) → dcD st g tt tk tv vs ρ p ys (up h p (.dK acc)) Q from H xs [] (fun _ z => z) (by simpa using hl) hd
  intro ys
  induction ys with
  | nil => intro acc _ _ q; exact ⟨hst _, q⟩
  | cons y ys ih =>
    intro acc hm hl2 q
    rw [List.length_cons] at hl2
    refine ⟨hst _, hs y acc (fun h => dcD st g tt tk tv vs ρ p ys h Q) (hm y (List.mem_cons_self ..)) (by omega) (ih _ (fun z hz => hm z (List.mem_cons_of_mem _ hz)) ?_ q)⟩
    have := dstep_len (f := f) (acc := acc) (x := y)
    omega
/-- the dict of the keys that count -/
def pick0 (A : Int → Int) (x : D) : Option (Key × D) := match x with
  | .int k => if A k ≠ 0 then some (Sum.inl k, .int (A k)) else none
  | _ => none
theorem put_new {es : Prs} {k v : Int} (h : hasI es k = false) : putI es k v = es ++ [(k, v)] := by
  unfold putI; rw [h]; rfl
theorem fold_keyed (A : Int → Int) : ∀ (ys : List Int) (es : Prs), ys.Nodup → (∀ y ∈ ys, hasI es y = false) → (ys.map D.int).foldl (dstep (pick0 A)) (toK es) = toK (es ++ keyed A ys)
  | [], es, _, _ => by simp [keyed]
  | y :: ys, es, nd, hn => by
    rw [List.nodup_cons] at nd
    rw [List.map_cons, List.foldl_cons]
    by_cases c : A y ≠ 0
    · have e1 : dstep (pick0 A) (toK es) (.int y) = toK (es ++ [(y, A y)]) := by
        unfold dstep pick0
        simp only [if_pos c]
        rw [putD_toK, put_new (hn y (List.mem_cons_self ..))]
      have e2 : keyed A (y :: ys) = (y, A y) :: keyed A ys := by
        unfold keyed; rw [List.filterMap_cons, if_pos c]
      rw [e1, fold_keyed A ys _ nd.2 (fun z hz => ?_), e2]
      · simp
      · have h1 := hn z (List.mem_cons_of_mem _ hz)
        have h2 : y ≠ z := fun e => nd.1 (by rw [e]; exact hz)
        show (es ++ [(y, A y)]).any _ = false
        rw [List.any_append]
        have h1 : es.any (fun e => decide (e.1 = z)) = false := h1
        rw [h1]
        simp [h2]
    · have e1 : dstep (pick0 A) (toK es) (.int y) = toK es := by
        unfold dstep pick0
        simp only [if_neg c]
      have e2 : keyed A (y :: ys) = keyed A ys := by
        unfold keyed; rw [List.filterMap_cons, if_neg c]
      rw [e1, fold_keyed A ys _ nd.2 (fun z hz => hn z (List.mem_cons_of_mem _ hz)), e2]
theorem endKF {p : Addr} {h : AH} {kvs : List (Key × D)} {Q : KD} (hp : h p = none) (q : Q (.dK kvs) h) : endK false p Q (up h p (.dK kvs)) := ⟨kvs, up_same, by rw [if_neg (by decide), rm_up, rm_none hp]; exact q⟩
theorem ix_p0 {r : Int × Int} {h : AH} {Q : KD} : dIx (pairD r) (.int 0) h Q = Q (.int r.1) h := u_ixTd at0
theorem ix_p1 {r : Int × Int} {h : AH} {Q : KD} : dIx (pairD r) (.int 1) h Q = Q (.int r.2) h := u_ixTd at1
/-! ### the small defs -/
section
variable {ρ : EnvD} {h : AH} {Q : KD} {X : KX} {D0 : EndsD} {x : D} {t : String}
theorem tyD_in (e : tyD h x = some t) : t = "NoneType" ∨ t = "bool" ∨ t = "int" ∨ t = "str" ∨ t = "tuple" ∨ t = "list" ∨ t = "dict" := by
  unfold tyD at e
  split at e <;> first | (cases e; simp) | cases e
end
def S_isInt : FSpec := fun ds h Q _ => ∃ x t, ds = [x] ∧ tyD h x = some t ∧ Q (.bl (decide (t = "int"))) h
def wr_isInt : WS := (wRet (wAndV (wB dIsi (wCons (wVar 0) (wCons (wC (.ty "int")) wNil))) (wNotV (wB dIsi (wCons (wVar 0) (wCons (wC (.ty "bool")) wNil))))))
theorem pr_isInt : ∀ ds h Q X, S_isInt ds h Q X → wr_isInt (endsD Q X) (startD 1 ds) h := by
  rintro ds h Q X ⟨x, t, rfl, e, q⟩
  show wr_isInt (endsD Q X) [some x] h
  simp only [wr_isInt, u_asg, u_gN, u_ret, u_retN, u_skip, u_expr, u_ifs, u_c, u_op, u_neg, u_test, u_and, u_or, u_not, u_if, u_nil, u_cons, u_tup, u_lst, u_callP, u_call, u_b, u_chain, u_andV, u_addI, u_subI, u_mulI, u_divI, u_modI, u_powI, u_cmpI, u_eqI, u_eqS, u_eqB, u_abs, u_intI, u_intB, u_newT, u_newF, u_isN, u_notN, wVar, List.set_cons_zero, List.set_cons_succ, List.getElem?_cons_zero, List.getElem?_cons_succ, List.length_cons, List.length_nil, u_lc, u_for, u_r1, u_r2, u_r3, u_num, u_notV, u_yes, u_w0, u_w1]
  rcases tyD_in e with rfl | rfl | rfl | rfl | rfl | rfl | rfl
  · exact ⟨x, _, "int", false, rfl, e, rfl, fin_of q⟩
  · exact ⟨x, _, "int", true, rfl, e, rfl, x, _, "bool", true, rfl, e, rfl, fin_of q⟩
  · exact ⟨x, _, "int", true, rfl, e, rfl, x, _, "bool", false, rfl, e, rfl, fin_of q⟩
  · exact ⟨x, _, "int", false, rfl, e, rfl, fin_of q⟩
  · exact ⟨x, _, "int", false, rfl, e, rfl, fin_of q⟩
  · exact ⟨x, _, "int", false, rfl, e, rfl, fin_of q⟩
  · exact ⟨x, _, "int", false, rfl, e, rfl, fin_of q⟩
theorem len_isInt : ∀ ds h Q X, S_isInt ds h Q X → ds.length = 1 := fun _ _ _ _ ⟨_, _, e, _⟩ => by rw [e]; rfl
theorem mo_isInt : MoF S_isInt := fun _ _ _ _ _ _ hq _ ⟨a, b, e, o, q⟩ => ⟨a, b, e, o, hq _ _ q⟩
theorem ty_int {i : Int} {h : AH} : tyD h (.int i) = some "int" := rfl
def btw (x : D) (lo hi : Int) : Bool := match x with
  | .int i => decide (lo ≤ i) && decide (i ≤ hi)
  | _ => false
def S_isBtw : FSpec := fun ds h Q _ => ∃ x t lo hi, ds = [x, .int lo, .int hi] ∧ tyD h x = some t ∧ Q (.bl (btw x lo hi)) h
def wr_isBtw : WS := (wRet (wAndV (wCallP S_isInt 1 (fun ds _ => ds) (wCons (wVar 0) wNil)) (wChain (dCmpI fun i j => decide (i ≤ j)) (dCmpI fun i j => decide (i ≤ j)) (wVar 1) (wVar 0) (wVar 2))))
theorem ty_isint {h : AH} {x : D} (e : tyD h x = some "int") : ∃ i, x = .int i := by
  cases x with
  | int i => exact ⟨i, rfl⟩
  | ref a =>
    cases ea : h a with
    | none => simp [tyD, cur, ea] at e
    | some o => cases o <;> simp [tyD, cur, ea] at e
  | _ => simp [tyD, cur] at e
theorem ty_noint {h : AH} {x : D} {t : String} (e : tyD h x = some t) (n : t ≠ "int") {lo hi : Int} : btw x lo hi = false := by
  cases x with
  | int i => exact absurd (Option.some.inj e).symm n
  | _ => rfl
theorem pr_isBtw : ∀ ds h Q X, S_isBtw ds h Q X → wr_isBtw (endsD Q X) (startD 3 ds) h := by
  rintro ds h Q X ⟨x, t, lo, hi, rfl, e, q⟩
  show wr_isBtw (endsD Q X) [some x, some (.int lo), some (.int hi)] h
  simp only [wr_isBtw, u_asg, u_gN, u_ret, u_retN, u_skip, u_expr, u_ifs, u_c, u_op, u_neg, u_test, u_and, u_or, u_not, u_if, u_nil, u_cons, u_tup, u_lst, u_callP, u_call, u_b, u_chain, u_andV, u_addI, u_subI, u_mulI, u_divI, u_modI, u_powI, u_cmpI, u_eqI, u_eqS, u_eqB, u_abs, u_intI, u_intB, u_newT, u_newF, u_isN, u_notN, wVar, List.set_cons_zero, List.set_cons_succ, List.getElem?_cons_zero, List.getElem?_cons_succ, List.length_cons, List.length_nil, u_lc, u_for, u_r1, u_r2, u_r3, u_num, u_notV, u_yes, u_w0, u_w1]
  refine ⟨trivial, x, t, rfl, e, ?_⟩
  by_cases c : t = "int"
  · subst c
    obtain ⟨i, rfl⟩ := ty_isint e
    have q : Q (.bl (decide (lo ≤ i) && decide (i ≤ hi))) h := q
    simp only [decide_true, if_true, u_cmpI]
    by_cases d : lo ≤ i
    · rw [decide_eq_true d] at q ⊢
      exact fin_of q
    · rw [decide_eq_false d] at q ⊢
      exact fin_of q
  · rw [ty_noint e c] at q
    simp only [decide_eq_false c]
    exact fin_of q
theorem len_isBtw : ∀ ds h Q X, S_isBtw ds h Q X → ds.length = 3 := fun _ _ _ _ ⟨_, _, _, _, e, _⟩ => by rw [e]; rfl
theorem mo_isBtw : MoF S_isBtw := fun _ _ _ _ _ _ hq _ ⟨a, b, c, d, e, o, q⟩ => ⟨a, b, c, d, e, o, hq _ _ q⟩
def S_needCap : FSpec := fun ds h Q _ => ∃ c : Int, ds = [.int c] ∧ 1 ≤ c ∧ c ≤ 10 ^ 30 ∧ Q .non h
def wr_needCap : WS := (wIfS (wNot (wTest (wCallP S_isBtw 3 (fun ds _ => ds) (wCons (wVar 0) (wCons (wC (.int 1)) (wCons (wC (.int 1000000000000000000000000000000)) wNil)))))) wNever wSkip)
theorem pr_needCap : ∀ ds h Q X, S_needCap ds h Q X → wr_needCap (endsD Q X) (startD 1 ds) h := by
  rintro ds h Q X ⟨c, rfl, c1, c2, q⟩
  show wr_needCap (endsD Q X) [some (.int c)] h
  simp only [wr_needCap, u_asg, u_gN, u_ret, u_retN, u_skip, u_expr, u_ifs, u_c, u_op, u_neg, u_test, u_and, u_or, u_not, u_if, u_nil, u_cons, u_tup, u_lst, u_callP, u_call, u_b, u_chain, u_andV, u_addI, u_subI, u_mulI, u_divI, u_modI, u_powI, u_cmpI, u_eqI, u_eqS, u_eqB, u_abs, u_intI, u_intB, u_newT, u_newF, u_isN, u_notN, wVar, List.set_cons_zero, List.set_cons_succ, List.getElem?_cons_zero, List.getElem?_cons_succ, List.length_cons, List.length_nil, u_lc, u_for, u_r1, u_r2, u_r3, u_num, u_notV, u_yes, u_w0, u_w1]
  refine ⟨trivial, _, _, _, _, rfl, ty_int, ?_⟩
  have : btw (.int c) 1 1000000000000000000000000000000 = true := by
    show (decide (1 ≤ c) && decide (c ≤ 1000000000000000000000000000000)) = true
    rw [decide_eq_true c1, decide_eq_true (by omega)]; rfl
  rw [this]
  exact fin_of q
theorem len_needCap : ∀ ds h Q X, S_needCap ds h Q X → ds.length = 1 := fun _ _ _ _ ⟨_, e, _⟩ => by rw [e]; rfl
theorem mo_needCap : MoF S_needCap := fun _ _ _ _ _ _ hq _ ⟨a, e, o, o2, q⟩ => ⟨a, e, o, o2, hq _ _ q⟩
def S_isRow : FSpec := fun ds h Q _ => ∃ r : Int × Int, ds = [pairD r] ∧ Q (.bl (decide (0 ≤ r.1) && decide (r.1 ≤ 1000000))) h
def wr_isRow : WS := (wSeq (wIfS (wOr (wNot (wTest (wB dIsi (wCons (wVar 0) (wCons (wC (.ty "tuple")) wNil))))) (wTest (wOp (dEq fun b => !b) (wB dLen (wCons (wVar 0) wNil)) (wC (.int 2))))) (wRet (wC (.bl false))) wSkip)
  (wRet (wAndV (wCallP S_isBtw 3 (fun ds _ => ds) (wCons (wOp dIx (wVar 0) (wC (.int 0))) (wCons (wC (.int 0)) (wCons (wC (.int 1000000)) wNil)))) (wCallP S_isInt 1 (fun ds _ => ds) (wCons (wOp dIx (wVar 0) (wC (.int 1))) wNil)))))
theorem pr_isRow : ∀ ds h Q X, S_isRow ds h Q X → wr_isRow (endsD Q X) (startD 1 ds) h := by
  rintro ds h Q X ⟨r, rfl, q⟩
  show wr_isRow (endsD Q X) [some (pairD r)] h
  unfold wr_isRow
  rw [u_seq]
  simp only [u_asg, u_gN, u_ret, u_retN, u_skip, u_expr, u_ifs, u_c, u_op, u_neg, u_test, u_and, u_or, u_not, u_if, u_nil, u_cons, u_tup, u_lst, u_callP, u_call, u_b, u_chain, u_andV, u_addI, u_subI, u_mulI, u_divI, u_modI, u_powI, u_cmpI, u_eqI, u_eqS, u_eqB, u_abs, u_intI, u_intB, u_newT, u_newF, u_isN, u_notN, wVar, List.set_cons_zero, List.set_cons_succ, List.getElem?_cons_zero, List.getElem?_cons_succ, List.length_cons, List.length_nil, u_lc, u_for, u_r1, u_r2, u_r3, u_num, u_notV, u_yes, u_w0, u_w1]
  refine ⟨_, _, "tuple", _, rfl, rfl, rfl, ?_⟩
  refine ⟨2, rfl, ?_⟩
  simp only [u_asg, u_gN, u_ret, u_retN, u_skip, u_expr, u_ifs, u_c, u_op, u_neg, u_test, u_and, u_or, u_not, u_if, u_nil, u_cons, u_tup, u_lst, u_callP, u_call, u_b, u_chain, u_andV, u_addI, u_subI, u_mulI, u_divI, u_modI, u_powI, u_cmpI, u_eqI, u_eqS, u_eqB, u_abs, u_intI, u_intB, u_newT, u_newF, u_isN, u_notN, wVar, List.set_cons_zero, List.set_cons_succ, List.getElem?_cons_zero, List.getElem?_cons_succ, List.length_cons, List.length_nil, u_lc, u_for, u_r1, u_r2, u_r3, u_num, u_notV, u_yes, u_w0, u_w1, ix_p0, ix_p1]
  refine ⟨trivial, _, _, _, _, rfl, ty_int, ?_⟩
  show (if (btw (.int r.1) 0 1000000) = true then _ else _)
  have e : btw (.int r.1) 0 1000000 = (decide (0 ≤ r.1) && decide (r.1 ≤ 1000000)) := rfl
  rw [e]
  by_cases c : (decide (0 ≤ r.1) && decide (r.1 ≤ 1000000)) = true
  · rw [if_pos c]
    rw [c] at q
    exact ⟨trivial, _, _, rfl, ty_int, fin_of q⟩
  · rw [if_neg c]
    rw [eq_false_of_ne_true c] at q
    exact fin_of q
theorem len_isRow : ∀ ds h Q X, S_isRow ds h Q X → ds.length = 1 := fun _ _ _ _ ⟨_, e, _⟩ => by rw [e]; rfl
theorem mo_isRow : MoF S_isRow := fun _ _ _ _ _ _ hq _ ⟨a, e, q⟩ => ⟨a, e, hq _ _ q⟩
end DL
namespace K02
open PySem PySem.Spec L2 C8 DL
abbrev N_is_integer : List Str := ["value"]
abbrev N_is_between : List Str := ["value", "least", "most"]
abbrev N_is_head : List Str := ["value", "word", "parts"]
abbrev N_inner_of : List Str := ["action"]
abbrev N_is_action : List Str := ["value"]
abbrev N_is_body : List Str := ["value", "action"]
abbrev N_bytes_of : List Str := ["action"]
abbrev N__law_pen : List Str := ["_law_script"]
abbrev N__law_draw : List Str := ["_law_pen_here", "_law_bound", "_law_digit", "_law_turn", "_law_cell", "_law_great", "_law_mixed"]
abbrev N__law_deeds : List Str := ["_law_pen_here", "_law_deep", "_law_words_here", "_law_most", "_law_found", "_law_k", "_law_word", "_law_inner"]
abbrev N__law_words : List Str := ["_law_pen_here", "_law_some"]
abbrev N__law_is_act : List Str := ["_law_thing", "_law_least", "_law_parts", "_law_most"]
abbrev N__law_are_acts : List Str := ["_law_thing", "_law_act"]
abbrev N__law_odd : List Str := ["_law_pen_here", "_law_some"]
abbrev N__law_bent : List Str := ["_law_pen_here", "_law_deeds_here", "_law_at", "_law_way", "_law_act"]
abbrev N__law_right : List Str := ["_law_thing", "_law_kept", "_law_due", "_law_told"]
abbrev N_law : List Str := ["_law_script", "_law_pen_here", "_law_turn", "_law_deeds_here", "_law_bent_here", "_law_things", "_law_thing", "_law_act", "_law_due", "_law_some"]
end K02
namespace K02
open PySem PySem.Spec L2 C8 DL
/-! ### things: data of all kinds, no dict but {} -/
mutual
def th : D → Bool
  | .non => true
  | .bl _ => true
  | .int i => decide (i.natAbs < 2 ^ 64)
  | .str _ => true
  | .tup xs => decide (xs.length ≤ 1000) && ths xs
  | .lst xs => decide (xs.length ≤ 1000) && ths xs
  | .dK kvs => kvs.isEmpty
  | .tpl _ => false
  | .ref _ => false
  | .ty _ => false
  | .lk _ => false
  | .ob _ _ => false
  | .dT _ => false
def ths : List D → Bool
  | [] => true
  | x :: xs => th x && ths xs
end
mutual
def dep : D → Nat
  | .tup xs => deps xs
  | .lst xs => deps xs
  | .tpl xs => deps xs
  | .non => 0
  | .bl _ => 0
  | .int _ => 0
  | .str _ => 0
  | .dK _ => 0
  | .ref _ => 0
  | .ty _ => 0
  | .lk _ => 0
  | .ob _ _ => 0
  | .dT _ => 0
def deps : List D → Nat
  | [] => 0
  | x :: xs => max (dep x + 1) (deps xs)
end
/-! the most that stands side by side -/
mutual
def nl : D → Nat
  | .tup xs => max xs.length (nls xs)
  | .lst xs => max xs.length (nls xs)
  | .tpl _ => 0
  | .non => 0
  | .bl _ => 0
  | .int _ => 0
  | .str _ => 0
  | .dK _ => 0
  | .ref _ => 0
  | .ty _ => 0
  | .lk _ => 0
  | .ob _ _ => 0
  | .dT _ => 0
def nls : List D → Nat
  | [] => 0
  | x :: xs => max (nl x) (nls xs)
end
/-! how long the text of a thing may be -/
mutual
def wt : D → Nat
  | .tup xs => 3 + wts xs
  | .lst xs => 3 + wts xs
  | .tpl _ => 0
  | .non => 4
  | .bl _ => 5
  | .int _ => 66
  | .str s => (PyData.str s).shown.length
  | .dK _ => 2
  | .ref _ => 0
  | .ty _ => 0
  | .lk _ => 0
  | .ob _ _ => 0
  | .dT _ => 0
def wts : List D → Nat
  | [] => 0
  | x :: xs => wt x + 2 + wts xs
end
def bare (w : Str) : Bool := inD (.str w) [.str "line", .str "flush", .str "drop", .str "both", .str "exit", .str "quit"]
def isTup : D → Bool
  | .tup _ => true
  | _ => false
/-- the head of an action: its own judgement -/
def headL : List D → Bool
  | [] => false
  | .str w :: ps =>
    if bare w = true then ps.isEmpty
    else if w = ("write" : Str) then (match ps with
      | [x] => btw x 1 2000
      | _ => false)
    else if w = ("fork" : Str) then (match ps with
      | [x] => isTup x
      | _ => false)
    else if w = ("repeat" : Str) then (match ps with
      | [x, y] => btw x 0 300 && isTup y
      | _ => false)
    else false
  | _ => false
def headD : D → Bool
  | .tup xs => headL xs
  | _ => false
/-- what is within -/
def innD : List D → D
  | .str w :: ps => if w = ("fork" : Str) ∨ w = ("repeat" : Str) then (ps.getLast?.getD (.str w)) else .tup []
  | _ => .tup []
/-! judged n levels deep -/
mutual
def actN : Nat → D → Bool
  | 0, _ => false
  | n + 1, x => match x with
    | .tup xs => headL xs && bodyN n (innD xs)
    | _ => false
def bodyN : Nat → D → Bool
  | 0, _ => false
  | n + 1, x => match x with
    | .tup xs => xs.all fun y => actN n y
    | _ => false
end
/-- what repr of a thing asks -/
structure Rq (x : D) (k n : Nat) : Prop where
  da : dq x = true
  sh : (pq x).showable = true
  de : (pq x).depth ≤ k
  le : (pq x).shown.length ≤ n
abbrev S_is_integer : FSpec := S_isInt
abbrev S_is_between : FSpec := S_isBtw
def S_is_head : FSpec := fun ds h Q _ => ∃ x, ds = [x] ∧ th x = true ∧ Q (.bl (headD x)) h
def S_inner_of : FSpec := fun ds h Q _ => ∃ xs, ds = [.tup xs] ∧ headL xs = true ∧ Q (innD xs) h
def S_is_action (n : Nat) : FSpec := fun ds h Q _ => ∃ x, ds = [x] ∧ th x = true ∧ dep x < n ∧ Q (.bl (actN n x)) h
def S_is_body (n : Nat) : FSpec := fun ds h Q _ => ∃ x, ds = [x] ∧ th x = true ∧ dep x < n ∧ Q (.bl (bodyN n x)) h
def bytD : List D → D
  | .str w :: ps => if w = ("write" : Str) then ps.headD (.int 0) else if w = ("line" : Str) then .int 1 else .int 0
  | _ => .int 0
def S_bytes_of : FSpec := fun ds h Q _ => ∃ xs, ds = [.tup xs] ∧ headL xs = true ∧ Q (bytD xs) h
abbrev S__law_pen : FSpec := S_pen
abbrev S__law_draw : FSpec := S_draw
def S__law_is_act (n : Nat) : FSpec := S_is_action n
def S__law_are_acts (n : Nat) : FSpec := S_is_body n
/-- the lists of words that are drawn from -/
def Wds (xs : List D) : Prop := 1 ≤ xs.length ∧ xs.length ≤ 20 ∧ ∀ x ∈ xs, ∃ w : Str, x = .str w ∧ (bare w = true ∨ w = "write" ∨ w = "fork" ∨ w = "repeat")
def bN (d : Nat) : Nat := if d = 0 then 1000 else if d = 1 then 16000 else 300000
def pN (d : Nat) : Int := if d = 0 then 30 else if d = 1 then 200 else 2000
/-- a body as it is drawn -/
structure Bdy (xs : List D) (k m n : Nat) : Prop where
  len : xs.length ≤ m
  th : th (.tup xs) = true
  de : dep (.tup xs) ≤ k
  act : ∀ y ∈ xs, ∃ m, actN m y = true
  wt : wt (.tup xs) ≤ n
  nl : nl (.tup xs) ≤ 20
/-- a body as it may be bent -/
structure Bd2 (xs : List D) (l r : Nat) : Prop where
  th : th (.tup xs) = true
  act : ∀ y ∈ xs, ∃ m, actN m y = true
  wt : K02.wt (.tup xs) ≤ r
  nl : K02.nl (.tup xs) ≤ l
def S__law_words : FSpec := fun ds h Q _ => ∃ (n : Int) (p : Addr), ds = [.ref p] ∧ PenAt n h p ∧ n < 900000 ∧ ∀ xs o, Wds xs → PenO (n + 1) o → Q (.lst xs) (up h p o)
def S__law_deeds (k : Nat) : FSpec := fun ds h Q _ => ∃ (n : Int) (p : Addr) (deep : Nat) (xs : List D) (most : Nat), ds = [.ref p, .int (deep : Nat), .lst xs, .int (most : Nat)] ∧ PenAt n h p ∧ n + 2000 * (deep : Int) < 800000 ∧ Wds xs ∧ most ≤ 5 ∧ deep ≤ 2 ∧ deep < k ∧
  ∀ ys o, Bdy ys (2 * deep + 4) most (bN deep) → PenO (n + pN deep) o → Q (.tup ys) (up h p o)
def S__law_odd : FSpec := fun ds h Q _ => ∃ (n : Int) (p : Addr), ds = [.ref p] ∧ PenAt n h p ∧ n < 900000 ∧ ∀ x o, th x = true → dep x ≤ 3 → wt x ≤ 400 → nl x ≤ 3 → PenO (n + 1) o → Q x (up h p o)
def S__law_bent (k : Nat) : FSpec := fun ds h Q _ => ∃ (n : Int) (p : Addr) (xs : List D) (l r : Nat), ds = [.ref p, .tup xs] ∧ PenAt n h p ∧ n + 3 * (k : Int) < 800000 ∧ Bd2 xs l r ∧ 2 ≤ l ∧ l ≤ 50 ∧ dep (.tup xs) < k ∧ r ≤ 1000000 ∧
  ∀ x ys o, (x = .tup ys ∨ x = .lst ys) → th x = true → dep x ≤ dep (.tup xs) + 4 → wt x ≤ r + 402 → nl x ≤ l + 1 → PenO (n + 3 * (k : Int)) o → Q x (up h p o)
def S__law_right : FSpec := fun ds h Q _ => ∃ x, ds = [x] ∧ th x = true ∧ dep x ≤ 18 ∧ wt x ≤ 2000000 ∧ Q (.bl true) h
def S_law : FSpec := fun ds h Q _ => ∃ js : List Int, ds = [.lk (js.map D.int)] ∧ h = (fun _ => none) ∧ ∀ h', Q (.bl true) h'
end K02
namespace K02
open PySem PySem.Spec L2 C8 DL
/-! ### the readings -/
def w_is_integer : WS := (wRet (wAndV (wB dIsi (wCons (wVar 0) (wCons (wC (.ty "int")) wNil))) (wNotV (wB dIsi (wCons (wVar 0) (wCons (wC (.ty "bool")) wNil))))))
def w_is_between : WS := (wRet (wAndV (wCallP S_is_integer 1 (fun ds _ => ds) (wCons (wVar 0) wNil)) (wChain (dCmpI fun i j => decide (i ≤ j)) (dCmpI fun i j => decide (i ≤ j)) (wVar 1) (wVar 0) (wVar 2))))
def w_is_head : WS := (wSeq (wIfS (wOr (wNot (wTest (wB dIsi (wCons (wVar 0) (wCons (wC (.ty "tuple")) wNil))))) (wOr (wTest (wOp (dEq fun b => b) (wB dLen (wCons (wVar 0) wNil)) (wC (.int 0)))) (wNot (wTest (wB dIsi (wCons (wOp dIx (wVar 0) (wC (.int 0))) (wCons (wC (.ty "str")) wNil))))))) (wRet (wC (.bl false))) wSkip)
  (wSeq (wAsg (wVar 0) (gStarD 2 1 (gsCons (gN 1) (gsCons (gN 2) gsNil))))
  (wSeq (wIfS (wTest (wOp (dIn false) (wVar 1) (wC (.tup [(.str "line"), (.str "flush"), (.str "drop"), (.str "both"), (.str "exit"), (.str "quit")])))) (wRet (wOp (dEq fun b => b) (wB dLen (wCons (wVar 2) wNil)) (wC (.int 0)))) wSkip)
  (wSeq (wIfS (wTest (wOp (dEq fun b => b) (wVar 1) (wC (.str "write")))) (wRet (wAndV (wOp (dEq fun b => b) (wB dLen (wCons (wVar 2) wNil)) (wC (.int 1))) (wCallP S_is_between 3 (fun ds _ => ds) (wCons (wOp dIx (wVar 2) (wC (.int 0))) (wCons (wC (.int 1)) (wCons (wC (.int 2000)) wNil)))))) wSkip)
  (wSeq (wIfS (wTest (wOp (dEq fun b => b) (wVar 1) (wC (.str "fork")))) (wRet (wAndV (wOp (dEq fun b => b) (wB dLen (wCons (wVar 2) wNil)) (wC (.int 1))) (wB dIsi (wCons (wOp dIx (wVar 2) (wC (.int 0))) (wCons (wC (.ty "tuple")) wNil))))) wSkip)
  (wRet (wAndV (wOp (dEq fun b => b) (wVar 1) (wC (.str "repeat"))) (wAndV (wOp (dEq fun b => b) (wB dLen (wCons (wVar 2) wNil)) (wC (.int 2))) (wAndV (wCallP S_is_between 3 (fun ds _ => ds) (wCons (wOp dIx (wVar 2) (wC (.int 0))) (wCons (wC (.int 0)) (wCons (wC (.int 300)) wNil)))) (wB dIsi (wCons (wOp dIx (wVar 2) (wC (.int 1))) (wCons (wC (.ty "tuple")) wNil))))))))))))
def w_inner_of : WS := (wRet (wIf (wTest (wOp (dIn false) (wOp dIx (wVar 0) (wC (.int 0))) (wTup (wCons (wC (.str "fork")) (wCons (wC (.str "repeat")) wNil))))) (wOp dIx (wVar 0) (wNeg (wC (.int 1)))) (wTup wNil)))
def w_is_action (n : Nat) : WS := (wRet (wAndV (wCallP S_is_head 1 (fun ds _ => ds) (wCons (wVar 0) wNil)) (wCallP (S_is_body n) 1 (fun ds _ => ds) (wCons (wCallP S_inner_of 1 (fun ds _ => ds) (wCons (wVar 0) wNil)) wNil))))
def w_is_body (n : Nat) : WS := (wRet (wAndV (wB dIsi (wCons (wVar 0) (wCons (wC (.ty "tuple")) wNil))) (wB dAll (wCons (wLc false (iTupD (wVar 0)) (gN 1) wYes (wCallP (S_is_action n) 1 (fun ds _ => ds) (wCons (wVar 1) wNil)) [1]) wNil))))
def w_bytes_of : WS := (wSeq (wIfS (wTest (wOp (dEq fun b => b) (wOp dIx (wVar 0) (wC (.int 0))) (wC (.str "write")))) (wRet (wOp dIx (wVar 0) (wC (.int 1)))) wSkip)
  (wRet (wIf (wTest (wOp (dEq fun b => b) (wOp dIx (wVar 0) (wC (.int 0))) (wC (.str "line")))) (wC (.int 1)) (wC (.int 0)))))
def w__law_pen : WS := (wRet (wLst true (wCons (wB (dListOf false) (wCons (wSl false (wVar 0) woNone (woSome (wC (.int 63)))) wNil)) (wCons (wC (.int 0)) (wCons (wC (.int 0)) wNil)))))
def w__law_draw : WS := (wSeq (wIfS (wTest (wOp (dCmpI fun i j => decide (j < i)) (wOp dIx (wVar 0) (wC (.int 2))) (wC (.int 0)))) (wSeq (wAsg (wOp dMod (wOp dIx (wVar 0) (wC (.int 2))) (wVar 1)) (gN 2))
  (wSeq (wAsg (wOp dDiv (wOp dIx (wVar 0) (wC (.int 2))) (wVar 1)) (gSubL (wVar 0) (wC (.int 2))))
  (wRet (wVar 2)))) wSkip)
  (wSeq (wAsg (wOp dIx (wVar 0) (wC (.int 1))) (gN 3))
  (wSeq (wAsg (wOp (dAdd false) (wVar 3) (wC (.int 1))) (gSubL (wVar 0) (wC (.int 1))))
  (wSeq (wAsg (wOp (dAdd false) (wOp (dMul false) (wC (.int 80239)) (wVar 3)) (wC (.int 71))) (gN 4))
  (wSeq (wIfS (wTest (wOp (dEq fun b => !b) (wOp dIx (wVar 0) (wC (.int 0))) (wLst false wNil))) (wAsg (wOp dIx (wOp dIx (wVar 0) (wC (.int 0))) (wOp dMod (wVar 3) (wB dLen (wCons (wOp dIx (wVar 0) (wC (.int 0))) wNil)))) (gN 4)) wSkip)
  (wSeq (wIfS (wAnd (wTest (wOp (dCmpI fun i j => decide (i < j)) (wVar 3) (wB dLen (wCons (wOp dIx (wVar 0) (wC (.int 0))) wNil)))) (wTest (wOp (dCmpI fun i j => decide (j ≤ i)) (wB dAbs (wCons (wVar 4) wNil)) (wOp dPow (wC (.int 10)) (wC (.int 18)))))) (wSeq (wAsg (wOp (dAdd false) (wOp (dMul false) (wC (.int 2)) (wB dAbs (wCons (wVar 4) wNil))) (wB dInt (wCons (wOp (dCmpI fun i j => decide (i < j)) (wVar 4) (wC (.int 0))) wNil))) (gN 5))
  (wSeq (wAsg (wOp dDiv (wVar 5) (wVar 1)) (gSubL (wVar 0) (wC (.int 2))))
  (wRet (wOp dMod (wVar 5) (wVar 1))))) wSkip)
  (wSeq (wAsg (wOp dMod (wOp dPow (wOp (dAdd false) (wOp (dAdd false) (wOp dMod (wVar 4) (wC (.int 2147483587))) (wOp (dMul false) (wC (.int 61027)) (wVar 3))) (wC (.int 29))) (wC (.int 3))) (wC (.int 2147483629))) (gN 6))
  (wSeq (wAsg (wOp dMod (wOp dPow (wOp (dAdd false) (wOp (dMul false) (wVar 6) (wOp (dAdd false) (wOp (dMul false) (wC (.int 2)) (wVar 3)) (wC (.int 9)))) (wC (.int 93239))) (wC (.int 3))) (wC (.int 2147483543))) (gN 6))
  (wRet (wOp dMod (wOp dDiv (wVar 6) (wC (.int 16))) (wVar 1)))))))))))
def w__law_deeds (n : Nat) : WS := (wSeq (wAsg (wLst true wNil) (gN 4))
  (wSeq (wFor (iRng1 (wCons (wCallP S__law_draw 2 (fun ds _ => ds) (wCons (wVar 0) (wCons (wOp (dAdd false) (wVar 3) (wC (.int 1))) wNil))) wNil)) (gN 5) (wSeq (wAsg (wOp dIx (wVar 2) (wCallP S__law_draw 2 (fun ds _ => ds) (wCons (wVar 0) (wCons (wB dLen (wCons (wVar 2) wNil)) wNil)))) (gN 6))
  (wIfS (wTest (wOp (dEq fun b => b) (wVar 6) (wC (.str "write")))) (wExpr (wMethT isL dAppend (wVar 4) (wCons (wTup (wCons (wVar 6) (wCons (wOp dIx (wLst false (wCons (wC (.int 1)) (wCons (wC (.int 2)) (wCons (wC (.int 3)) (wCons (wC (.int 4)) (wCons (wC (.int 6)) (wCons (wOp (dAdd false) (wC (.int 1)) (wCallP S__law_draw 2 (fun ds _ => ds) (wCons (wVar 0) (wCons (wC (.int 12)) wNil)))) wNil))))))) (wCallP S__law_draw 2 (fun ds _ => ds) (wCons (wVar 0) (wCons (wC (.int 6)) wNil)))) wNil))) wNil))) (wIfS (wTest (wOp (dEq fun b => b) (wVar 6) (wC (.str "fork")))) (wExpr (wMethT isL dAppend (wVar 4) (wCons (wTup (wCons (wVar 6) (wCons (wIf (wTest (wOp (dCmpI fun i j => decide (j < i)) (wVar 1) (wC (.int 0)))) (wCallP (S__law_deeds n) 4 (fun ds _ => ds) (wCons (wVar 0) (wCons (wOp dSub (wVar 1) (wC (.int 1))) (wCons (wVar 2) (wCons (wC (.int 2)) wNil))))) (wTup wNil)) wNil))) wNil))) (wIfS (wTest (wOp (dEq fun b => b) (wVar 6) (wC (.str "repeat")))) (wSeq (wAsg (wIf (wTest (wOp (dCmpI fun i j => decide (j < i)) (wVar 1) (wC (.int 0)))) (wCallP (S__law_deeds n) 4 (fun ds _ => ds) (wCons (wVar 0) (wCons (wOp dSub (wVar 1) (wC (.int 1))) (wCons (wVar 2) (wCons (wC (.int 3)) wNil))))) (wTup (wCons (wTup (wCons (wC (.str "line")) wNil)) wNil))) (gN 7))
  (wExpr (wMethT isL dAppend (wVar 4) (wCons (wTup (wCons (wVar 6) (wCons (wOp dIx (wLst false (wCons (wC (.int 2)) (wCons (wC (.int 3)) (wCons (wC (.int 0)) (wCons (wC (.int 1)) wNil))))) (wCallP S__law_draw 2 (fun ds _ => ds) (wCons (wVar 0) (wCons (wC (.int 4)) wNil)))) (wCons (wVar 7) wNil)))) wNil)))) (wExpr (wMethT isL dAppend (wVar 4) (wCons (wTup (wCons (wVar 6) wNil)) wNil))))))))
  (wRet (wB dTupOf (wCons (wVar 4) wNil)))))
def w__law_words : WS := (wSeq (wAsg (wLst true (wCons (wLst false (wCons (wC (.str "write")) (wCons (wC (.str "write")) (wCons (wC (.str "fork")) (wCons (wC (.str "flush")) (wCons (wC (.str "line")) wNil)))))) (wCons (wLst false (wCons (wC (.str "write")) (wCons (wC (.str "fork")) (wCons (wC (.str "fork")) (wCons (wC (.str "line")) wNil))))) (wCons (wLst false (wCons (wC (.str "write")) (wCons (wC (.str "both")) (wCons (wC (.str "flush")) wNil)))) (wCons (wLst false (wCons (wC (.str "repeat")) (wCons (wC (.str "write")) (wCons (wC (.str "flush")) (wCons (wC (.str "fork")) wNil))))) (wCons (wLst false (wCons (wC (.str "write")) (wCons (wC (.str "drop")) (wCons (wC (.str "fork")) (wCons (wC (.str "quit")) wNil))))) (wCons (wLst false (wCons (wC (.str "write")) (wCons (wC (.str "fork")) (wCons (wC (.str "exit")) (wCons (wC (.str "both")) wNil))))) wNil))))))) (gN 1))
  (wSeq (wExpr (wMethT isL dAppend (wVar 1) (wCons (wLst false (wCons (wC (.str "write")) (wCons (wC (.str "line")) (wCons (wC (.str "flush")) (wCons (wC (.str "drop")) (wCons (wC (.str "fork")) (wCons (wC (.str "both")) (wCons (wC (.str "repeat")) (wCons (wC (.str "exit")) (wCons (wC (.str "quit")) (wCons (wC (.str "write")) (wCons (wC (.str "fork")) wNil)))))))))))) wNil)))
  (wRet (wOp dIx (wVar 1) (wCallP S__law_draw 2 (fun ds _ => ds) (wCons (wVar 0) (wCons (wC (.int 7)) wNil)))))))
def w__law_is_act (n : Nat) : WS := (wSeq (wIfS (wOr (wNot (wTest (wB dIsi (wCons (wVar 0) (wCons (wC (.ty "tuple")) wNil))))) (wOr (wTest (wOp dEqE (wVar 0) (wTup wNil))) (wNot (wTest (wB dIsi (wCons (wOp dIx (wVar 0) (wC (.int 0))) (wCons (wC (.ty "str")) wNil))))))) (wRet (wC (.bl false))) wSkip)
  (wSeq (wIfS (wTest (wOp (dIn false) (wOp dIx (wVar 0) (wC (.int 0))) (wTup (wCons (wC (.str "line")) (wCons (wC (.str "flush")) (wCons (wC (.str "drop")) (wCons (wC (.str "both")) (wCons (wC (.str "exit")) (wCons (wC (.str "quit")) wNil))))))))) (wRet (wOp (dEq fun b => b) (wB dLen (wCons (wVar 0) wNil)) (wC (.int 1)))) wSkip)
  (wSeq (wIfS (wTest (wOp (dEq fun b => b) (wOp dIx (wVar 0) (wC (.int 0))) (wC (.str "fork")))) (wRet (wAndV (wOp (dEq fun b => b) (wB dLen (wCons (wVar 0) wNil)) (wC (.int 2))) (wCallP (S__law_are_acts n) 1 (fun ds _ => ds) (wCons (wOp dIx (wVar 0) (wC (.int 1))) wNil)))) wSkip)
  (wSeq (wAsg (wGet2 (wDisp [((wC (.str "write")), (wTup (wCons (wC (.int 1)) (wCons (wC (.int 2)) wNil)))), ((wC (.str "repeat")), (wTup (wCons (wC (.int 0)) (wCons (wC (.int 3)) wNil))))]) (wOp dIx (wVar 0) (wC (.int 0))) (wTup (wCons (wC (.int 0)) (wCons (wC (.int 0)) wNil)))) (gT 2 (gsCons (gN 1) (gsCons (gN 2) gsNil))))
  (wSeq (wIfS (wOr (wTest (wOp (dEq fun b => !b) (wB dLen (wCons (wVar 0) wNil)) (wVar 2))) (wOr (wNot (wTest (wB dIsi (wCons (wOp dIx (wVar 0) (wC (.int 1))) (wCons (wC (.ty "int")) wNil))))) (wTest (wB dIsi (wCons (wOp dIx (wVar 0) (wC (.int 1))) (wCons (wC (.ty "bool")) wNil)))))) (wRet (wC (.bl false))) wSkip)
  (wSeq (wAsg (wOp dIx (wLst false (wCons (wC (.int 300)) (wCons (wC (.int 2000)) wNil))) (wVar 1)) (gN 3))
  (wRet (wAndV (wChain (dCmpI fun i j => decide (i ≤ j)) (dCmpI fun i j => decide (i ≤ j)) (wVar 1) (wOp dIx (wVar 0) (wC (.int 1))) (wVar 3)) (wOrV (wOp (dEq fun b => b) (wVar 2) (wC (.int 2))) (wCallP (S__law_are_acts n) 1 (fun ds _ => ds) (wCons (wOp dIx (wVar 0) (wC (.int 2))) wNil)))))))))))
def w__law_are_acts (n : Nat) : WS := (wRet (wAndV (wB dIsi (wCons (wVar 0) (wCons (wC (.ty "tuple")) wNil))) (wOp dEqE (wLc false (iTupD (wVar 0)) (gN 1) (wNot (wTest (wCallP (S__law_is_act n) 1 (fun ds _ => ds) (wCons (wVar 1) wNil)))) (wVar 1) [1]) (wLst false wNil))))
def w__law_odd : WS := (wSeq (wAsg (wLst false (wCons (wC .non) (wCons (wC (.bl true)) (wCons (wC (.int 0)) (wCons (wC (.str "write")) (wCons (wC (.str "line")) (wCons (wTup wNil) (wCons (wLst false wNil) (wCons wDnewF (wCons (wTup (wCons (wC (.str "write")) (wCons (wC (.int 0)) wNil))) (wCons (wTup (wCons (wC (.str "write")) (wCons (wC (.int 2001)) wNil))) (wCons (wTup (wCons (wC (.str "write")) (wCons (wC (.bl true)) wNil))) (wCons (wTup (wCons (wC (.str "write")) wNil)) wNil))))))))))))) (gN 1))
  (wSeq (wAsg (wOp (dAdd false) (wVar 1) (wLst false (wCons (wTup (wCons (wC (.str "line")) (wCons (wC (.int 1)) wNil))) (wCons (wTup (wCons (wC (.str "fork")) wNil)) (wCons (wTup (wCons (wC (.str "fork")) (wCons (wLst false wNil) wNil))) (wCons (wTup (wCons (wC (.str "fork")) (wCons (wC .non) wNil))) (wCons (wTup (wCons (wC (.str "repeat")) (wCons (wC (.int 2)) wNil))) (wCons (wTup (wCons (wC (.str "repeat")) (wCons (wNeg (wC (.int 1))) (wCons (wTup wNil) wNil)))) wNil)))))))) (gN 1))
  (wSeq (wAsg (wOp (dAdd false) (wVar 1) (wLst false (wCons (wTup (wCons (wC (.str "repeat")) (wCons (wC (.int 301)) (wCons (wTup wNil) wNil)))) (wCons (wTup (wCons (wC (.str "repeat")) (wCons (wC (.bl true)) (wCons (wTup wNil) wNil)))) (wCons (wTup (wCons (wC (.str "repeat")) (wCons (wC (.int 1)) (wCons (wLst false (wCons (wTup (wCons (wC (.str "line")) wNil)) wNil)) wNil)))) (wCons (wTup (wCons (wC (.str "Line")) wNil)) (wCons (wLst false (wCons (wC (.str "line")) wNil)) wNil))))))) (gN 1))
  (wSeq (wAsg (wOp (dAdd false) (wVar 1) (wLst false (wCons (wTup (wCons (wC (.str "write")) (wCons (wC (.str "3")) wNil))) (wCons (wTup (wCons (wC (.str "write")) (wCons (wC (.int 2000)) wNil))) (wCons (wTup (wCons (wC (.str "repeat")) (wCons (wC (.int 300)) (wCons (wTup wNil) wNil)))) (wCons (wTup (wCons (wTup (wCons (wC (.str "line")) wNil)) wNil)) (wCons (wTup (wCons (wC (.str "exit")) (wCons (wTup wNil) wNil))) (wCons (wTup (wCons (wC (.str "fork")) (wCons (wTup wNil) (wCons (wTup wNil) wNil)))) wNil)))))))) (gN 1))
  (wRet (wOp dIx (wVar 1) (wCallP S__law_draw 2 (fun ds _ => ds) (wCons (wVar 0) (wCons (wC (.int 29)) wNil)))))))))
def w__law_bent (n : Nat) : WS := (wSeq (wAsg (wCallP S__law_draw 2 (fun ds _ => ds) (wCons (wVar 0) (wCons (wOp (dAdd false) (wB dLen (wCons (wVar 1) wNil)) (wC (.int 1))) wNil))) (gN 2))
  (wSeq (wAsg (wCallP S__law_draw 2 (fun ds _ => ds) (wCons (wVar 0) (wCons (wC (.int 8)) wNil))) (gN 3))
  (wSeq (wIfS (wAnd (wTest (wOp (dCmpI fun i j => decide (i < j)) (wVar 3) (wC (.int 4)))) (wAnd (wTest (wOp (dCmpI fun i j => decide (i < j)) (wVar 2) (wB dLen (wCons (wVar 1) wNil)))) (wTest (wOp (dIn false) (wOp dIx (wOp dIx (wVar 1) (wVar 2)) (wC (.int 0))) (wTup (wCons (wC (.str "fork")) (wCons (wC (.str "repeat")) wNil))))))) (wSeq (wAsg (wOp (dAdd false) (wSl false (wOp dIx (wVar 1) (wVar 2)) woNone (woSome (wNeg (wC (.int 1))))) (wTup (wCons (wCallP (S__law_bent n) 2 (fun ds _ => ds) (wCons (wVar 0) (wCons (wOp dIx (wOp dIx (wVar 1) (wVar 2)) (wNeg (wC (.int 1)))) wNil))) wNil))) (gN 4))
  (wRet (wOp (dAdd false) (wOp (dAdd false) (wSl false (wVar 1) woNone (woSome (wVar 2))) (wTup (wCons (wVar 4) wNil))) (wSl false (wVar 1) (woSome (wOp (dAdd false) (wVar 2) (wC (.int 1)))) woNone)))) wSkip)
  (wSeq (wIfS (wTest (wOp (dEq fun b => b) (wVar 3) (wC (.int 7)))) (wRet (wB (dListOf false) (wCons (wVar 1) wNil))) wSkip)
  (wRet (wOp (dAdd false) (wOp (dAdd false) (wSl false (wVar 1) woNone (woSome (wVar 2))) (wTup (wCons (wCallP S__law_odd 1 (fun ds _ => ds) (wCons (wVar 0) wNil)) wNil))) (wSl false (wVar 1) (woSome (wOp (dAdd false) (wVar 2) (wOp dMod (wVar 3) (wC (.int 2))))) woNone)))))))
def w__law_right : WS := (wSeq (wAsg (wB dReprQ (wCons (wVar 0) wNil)) (gN 1))
  (wSeq (wAsg (wB dReprQ (wCons (wOp (dMul false) (wLst false (wCons (wCallP (S__law_is_act 20) 1 (fun ds _ => ds) (wCons (wVar 0) wNil)) (wCons (wCallP (S__law_are_acts 20) 1 (fun ds _ => ds) (wCons (wVar 0) wNil)) wNil))) (wC (.int 2))) wNil)) (gN 2))
  (wSeq (wAsg (wLst false (wCons (wCallP (S_is_action 20) 1 (fun ds _ => ds) (wCons (wVar 0) wNil)) (wCons (wCallP (S_is_body 20) 1 (fun ds _ => ds) (wCons (wVar 0) wNil)) (wCons (wCall (S_is_action 20) 0 1 (pickD [0]) wNil (wCons (wVar 0) wNil)) (wCons (wCall (S_is_body 20) 0 1 (pickD [0]) wNil (wCons (wVar 0) wNil)) wNil))))) (gN 3))
  (wRet (wAndV (wOp (dEq fun b => b) (wB dReprQ (wCons (wVar 3) wNil)) (wVar 2)) (wOp (dEq fun b => b) (wB dReprQ (wCons (wVar 0) wNil)) (wVar 1)))))))
def w_law : WS := (wSeq (wAsg (wCallP S__law_pen 1 (fun ds _ => ds) (wCons (wVar 0) wNil)) (gN 1))
  (wSeq (wFor (iRng1 (wCons (wC (.int 8)) wNil)) (gN 2) (wSeq (wAsg (wCallP (S__law_deeds 20) 4 (fun ds _ => ds) (wCons (wVar 1) (wCons (wC (.int 2)) (wCons (wCallP S__law_words 1 (fun ds _ => ds) (wCons (wVar 1) wNil)) (wCons (wC (.int 5)) wNil))))) (gN 3))
  (wSeq (wAsg (wCallP (S__law_bent 20) 2 (fun ds _ => ds) (wCons (wVar 1) (wCons (wVar 3) wNil))) (gN 4))
  (wSeq (wAsg (wOp (dAdd true) (wOp (dAdd false) (wLst false (wCons (wVar 3) (wCons (wVar 4) (wCons (wCallP S__law_odd 1 (fun ds _ => ds) (wCons (wVar 1) wNil)) (wCons (wTup (wCons (wVar 3) wNil)) wNil))))) (wB (dListOf false) (wCons (wVar 3) wNil))) (wB (dListOf false) (wCons (wVar 4) wNil))) (gN 5))
  (wSeq (wIfS (wTest (wB dIsi (wCons (wVar 4) (wCons (wC (.ty "tuple")) wNil)))) (wExpr (wMethT isL dAppend (wVar 5) (wCons (wCallP (S__law_bent 20) 2 (fun ds _ => ds) (wCons (wVar 1) (wCons (wB dTupOf (wCons (wLc false (iTupD (wVar 4)) (gN 7) (wTest (wCallP (S__law_is_act 20) 1 (fun ds _ => ds) (wCons (wVar 7) wNil))) (wVar 7) [7]) wNil)) wNil))) wNil))) wSkip)
  (wSeq (wFor (iSeq (wVar 5)) (gN 6) (wIfS (wNot (wTest (wCallP S__law_right 1 (fun ds _ => ds) (wCons (wVar 6) wNil)))) (wRet (wC (.bl false))) wSkip))
  (wFor (iTupD (wVar 3)) (gN 7) (wSeq (wAsg (wIf (wTest (wOp (dEq fun b => b) (wOp dIx (wVar 7) (wC (.int 0))) (wC (.str "write")))) (wOp dIx (wVar 7) (wC (.int 1))) (wB dInt (wCons (wOp (dEq fun b => b) (wOp dIx (wVar 7) (wC (.int 0))) (wC (.str "line"))) wNil))) (gN 8))
  (wIfS (wTest (wOp (dEq fun b => !b) (wB dRepr (wCons (wLst false (wCons (wCallP S_bytes_of 1 (fun ds _ => ds) (wCons (wVar 7) wNil)) (wCons (wCall S_bytes_of 0 1 (pickD [0]) wNil (wCons (wVar 7) wNil)) wNil))) wNil)) (wB dRepr (wCons (wLst false (wCons (wVar 8) (wCons (wVar 8) wNil))) wNil)))) (wRet (wC (.bl false))) wSkip)))))))))
  (wSeq (wAsg (wLst false (wCons (wTup (wCons (wC (.str "write")) (wCons (wC (.int 1)) wNil))) (wCons (wTup (wCons (wC (.str "write")) (wCons (wC (.int 2000)) wNil))) (wCons (wTup (wCons (wC (.str "repeat")) (wCons (wC (.int 0)) (wCons (wTup wNil) wNil)))) (wCons (wTup (wCons (wC (.str "repeat")) (wCons (wC (.int 300)) (wCons (wTup (wCons (wTup (wCons (wC (.str "quit")) wNil)) wNil)) wNil)))) (wCons (wTup (wCons (wC (.str "fork")) (wCons (wTup wNil) wNil))) wNil)))))) (gN 9))
  (wRet (wAndV (wOp (dEq fun b => b) (wLc false (iSeq (wVar 9)) (gN 7) wYes (wCallP (S_is_action 20) 1 (fun ds _ => ds) (wCons (wVar 7) wNil)) [7]) (wOp (dMul false) (wLst false (wCons (wC (.bl true)) wNil)) (wC (.int 5)))) (wAndV (wOp (dIsN fun b => b) (wCallP (S_is_body 20) 1 (fun ds _ => ds) (wCons (wTup wNil) wNil)) (wC (.bl true))) (wOp (dIsN fun b => b) (wCallP (S_is_body 20) 1 (fun ds _ => ds) (wCons (wLst false wNil) wNil)) (wC (.bl false)))))))))
end K02
namespace K02
open PySem PySem.Spec L2 C8 DL
theorem p_is_integer : ∀ ds h Q X, S_is_integer ds h Q X → w_is_integer (endsD Q X) (startD 1 ds) h := pr_isInt
theorem len_is_integer : ∀ ds h Q X, S_is_integer ds h Q X → ds.length = 1 := len_isInt
theorem mo_is_integer : MoF S_is_integer := mo_isInt
theorem p_is_between : ∀ ds h Q X, S_is_between ds h Q X → w_is_between (endsD Q X) (startD 3 ds) h := pr_isBtw
theorem len_is_between : ∀ ds h Q X, S_is_between ds h Q X → ds.length = 3 := len_isBtw
theorem mo_is_between : MoF S_is_between := mo_isBtw
theorem p__law_pen : ∀ ds h Q X, S__law_pen ds h Q X → w__law_pen (endsD Q X) (startD 1 ds) h := p_pen
theorem len__law_pen : ∀ ds h Q X, S__law_pen ds h Q X → ds.length = 1 := len_pen
theorem mo__law_pen : MoF S__law_pen := mo_pen
theorem p__law_draw : ∀ ds h Q X, S__law_draw ds h Q X → w__law_draw (endsD Q X) (startD 7 ds) h := p_draw2
theorem len__law_draw : ∀ ds h Q X, S__law_draw ds h Q X → ds.length = 2 := len_draw
theorem mo__law_draw : MoF S__law_draw := mo_draw
/-! things -/
def isStrD : D → Bool
  | .str _ => true
  | _ => false
def isIntB : D → Bool
  | .int _ => true
  | .bl _ => true
  | _ => false
def isBl : D → Bool
  | .bl _ => true
  | _ => false
section
variable {x : D} {h : AH} {Q : KD}
theorem go_tup (hx : th x = true) (q : Q (.bl (isTup x)) h) : dIsi [x, .ty "tuple"] h Q := by
  cases x <;> first | exact ⟨_, _, _, _, rfl, rfl, rfl, q⟩ | (simp [th] at hx)
theorem go_str (hx : th x = true) (q : Q (.bl (isStrD x)) h) : dIsi [x, .ty "str"] h Q := by
  cases x <;> first | exact ⟨_, _, _, _, rfl, rfl, rfl, q⟩ | (simp [th] at hx)
theorem go_int (hx : th x = true) (q : Q (.bl (isIntB x)) h) : dIsi [x, .ty "int"] h Q := by
  cases x <;> first | exact ⟨_, _, _, _, rfl, rfl, rfl, q⟩ | (simp [th] at hx)
theorem go_bl (hx : th x = true) (q : Q (.bl (isBl x)) h) : dIsi [x, .ty "bool"] h Q := by
  cases x <;> first | exact ⟨_, _, _, _, rfl, rfl, rfl, q⟩ | (simp [th] at hx)
theorem ty_th (hx : th x = true) : ∃ t, tyD h x = some t := by
  cases x <;> first | exact ⟨_, rfl⟩ | (simp [th] at hx)
end
theorem ths_mem : ∀ {xs : List D}, ths xs = true → ∀ x ∈ xs, th x = true
  | [], _, x, h => by cases h
  | y :: ys, hx, x, h => by
    rw [ths, Bool.and_eq_true] at hx
    rcases List.mem_cons.mp h with rfl | h
    · exact hx.1
    · exact ths_mem hx.2 x h
theorem th_tup {xs : List D} (h : th (.tup xs) = true) : xs.length ≤ 1000 ∧ ∀ x ∈ xs, th x = true := by
  rw [th, Bool.and_eq_true, decide_eq_true_iff] at h
  exact ⟨h.1, ths_mem h.2⟩
theorem deps_mem : ∀ {xs : List D} {x : D}, x ∈ xs → dep x + 1 ≤ deps xs
  | y :: ys, x, h => by
    rw [deps]
    rcases List.mem_cons.mp h with rfl | h
    · exact Nat.le_max_left ..
    · exact Nat.le_trans (deps_mem h) (Nat.le_max_right ..)
theorem dep_tup {xs : List D} {x : D} (h : x ∈ xs) : dep x + 1 ≤ dep (.tup xs) := by rw [dep]; exact deps_mem h
theorem dep_nil : dep (.tup []) = 0 := by rw [dep, deps]
theorem th_nil : th (.tup []) = true := by rw [th, ths]; rfl
/-! is_head -/
theorem star2 {y : D} {ps : List D} : (y :: ps).take 1 ++ [D.lst (((y :: ps).drop 1).take ((y :: ps).length + 1 - 2))] ++ ((y :: ps).drop 1).drop ((y :: ps).length + 1 - 2) = [y, .lst ps] := by
  have e : (y :: ps).length + 1 - 2 = ps.length := by simp
  rw [e]
  simp
theorem u_gstar {n i : Nat} {t : WGs} {d : D} {ρ : EnvD} {h : AH} {Q : EnvD → AH → Prop} {X : KX} : gStarD n i t d ρ h Q X = ∃ xs, d = .tup xs ∧ i < n ∧ n ≤ xs.length + 1 ∧ xs.length ≤ 16384 ∧ t (xs.take i ++ [.lst ((xs.drop i).take (xs.length + 1 - n))] ++ (xs.drop i).drop (xs.length + 1 - n)) ρ h Q X := rfl
theorem isi_in {w : Str} {h : AH} {Q : KD} (q : Q (.bl (bare w)) h) : dIn false (.str w) (.tup [.str "line", .str "flush", .str "drop", .str "both", .str "exit", .str "quit"]) h Q := ⟨_, rfl, rfl, rfl, q⟩
theorem p_is_head : ∀ ds h Q X, S_is_head ds h Q X → w_is_head (endsD Q X) (startD 3 ds) h := by
  rintro ds h Q X ⟨x, rfl, hx, q⟩
  show w_is_head (endsD Q X) [some x, none, none] h
  unfold w_is_head
  ((try dsimp only); rw [u_seq]; (try simp only [u_asg, u_gN, u_ret, u_retN, u_skip, u_expr, u_ifs, u_c, u_op, u_neg, u_test, u_and, u_or, u_not, u_if, u_nil, u_cons, u_tup, u_lst, u_callP, u_call, u_b, u_chain, u_andV, u_addI, u_subI, u_mulI, u_divI, u_modI, u_powI, u_cmpI, u_eqI, u_eqS, u_eqB, u_abs, u_intI, u_intB, u_newT, u_newF, u_isN, u_notN, wVar, List.set_cons_zero, List.set_cons_succ, List.getElem?_cons_zero, List.getElem?_cons_succ, List.length_cons, List.length_nil, u_lc, u_for, u_r1, u_r2, u_r3, u_num, u_notV, u_yes, u_w0, u_w1, u_dput, u_get2, u_dget, u_prop, u_fld, u_setF, u_make, u_makeS, u_met, u_calO, u_orT, u_tupIt, u_dc, u_maxDd, u_dnew, u_tupi, ix_p0, ix_p1, wSl, woNone, woSome]))
  refine go_tup hx ?_
  cases x with
  | tup xs =>
    obtain ⟨hl, hm⟩ := th_tup hx
    simp only [isTup, Bool.not_true, Bool.false_eq_true, if_false]
    simp only [u_lenT]
    cases xs with
    | nil => exact fin_of q
    | cons y ps =>
      have hy := hm y (List.mem_cons_self ..)
      have n0 : decide ((((y :: ps).length : Nat) : Int) = 0) = false := decide_eq_false (by rw [List.length_cons]; omega)
      rw [u_eqI, n0]
      simp only [Bool.false_eq_true, if_false]
      rw [u_ixTd at0]
      refine go_str hy ?_
      cases y with
      | str w =>
        simp only [isStrD, Bool.not_true, Bool.false_eq_true, if_false]
        ((try dsimp only); rw [u_seq]; (try simp only [u_asg, u_gN, u_ret, u_retN, u_skip, u_expr, u_ifs, u_c, u_op, u_neg, u_test, u_and, u_or, u_not, u_if, u_nil, u_cons, u_tup, u_lst, u_callP, u_call, u_b, u_chain, u_andV, u_addI, u_subI, u_mulI, u_divI, u_modI, u_powI, u_cmpI, u_eqI, u_eqS, u_eqB, u_abs, u_intI, u_intB, u_newT, u_newF, u_isN, u_notN, wVar, List.set_cons_zero, List.set_cons_succ, List.getElem?_cons_zero, List.getElem?_cons_succ, List.length_cons, List.length_nil, u_lc, u_for, u_r1, u_r2, u_r3, u_num, u_notV, u_yes, u_w0, u_w1, u_dput, u_get2, u_dget, u_prop, u_fld, u_setF, u_make, u_makeS, u_met, u_calO, u_orT, u_tupIt, u_dc, u_maxDd, u_dnew, u_tupi, ix_p0, ix_p1, wSl, woNone, woSome]))
        rw [u_gstar]
        refine ⟨_, rfl, by decide, by simp, Nat.le_trans hl (by decide), ?_⟩
        rw [star2]
        refine ⟨_, _, rfl, _, _, rfl, rfl, ?_⟩
        have q : Q (.bl (headL (.str w :: ps))) h := q
        unfold headL at q
        dsimp only at q
        ((try dsimp only); rw [u_seq]; (try simp only [u_asg, u_gN, u_ret, u_retN, u_skip, u_expr, u_ifs, u_c, u_op, u_neg, u_test, u_and, u_or, u_not, u_if, u_nil, u_cons, u_tup, u_lst, u_callP, u_call, u_b, u_chain, u_andV, u_addI, u_subI, u_mulI, u_divI, u_modI, u_powI, u_cmpI, u_eqI, u_eqS, u_eqB, u_abs, u_intI, u_intB, u_newT, u_newF, u_isN, u_notN, wVar, List.set_cons_zero, List.set_cons_succ, List.getElem?_cons_zero, List.getElem?_cons_succ, List.length_cons, List.length_nil, u_lc, u_for, u_r1, u_r2, u_r3, u_num, u_notV, u_yes, u_w0, u_w1, u_dput, u_get2, u_dget, u_prop, u_fld, u_setF, u_make, u_makeS, u_met, u_calO, u_orT, u_tupIt, u_dc, u_maxDd, u_dnew, u_tupi, ix_p0, ix_p1, wSl, woNone, woSome]))
        refine isi_in ?_
        dsimp only
        by_cases c1 : bare w = true
        · rw [if_pos c1] at q ⊢
          try simp only [u_asg, u_gN, u_ret, u_retN, u_skip, u_expr, u_ifs, u_c, u_op, u_neg, u_test, u_and, u_or, u_not, u_if, u_nil, u_cons, u_tup, u_lst, u_callP, u_call, u_b, u_chain, u_andV, u_addI, u_subI, u_mulI, u_divI, u_modI, u_powI, u_cmpI, u_eqI, u_eqS, u_eqB, u_abs, u_intI, u_intB, u_newT, u_newF, u_isN, u_notN, wVar, List.set_cons_zero, List.set_cons_succ, List.getElem?_cons_zero, List.getElem?_cons_succ, List.length_cons, List.length_nil, u_lc, u_for, u_r1, u_r2, u_r3, u_num, u_notV, u_yes, u_w0, u_w1, u_dput, u_get2, u_dget, u_prop, u_fld, u_setF, u_make, u_makeS, u_met, u_calO, u_orT, u_tupIt, u_dc, u_maxDd, u_dnew, u_tupi, ix_p0, ix_p1, wSl, woNone, woSome]
          refine len_of rfl ?_
          try simp only [u_asg, u_gN, u_ret, u_retN, u_skip, u_expr, u_ifs, u_c, u_op, u_neg, u_test, u_and, u_or, u_not, u_if, u_nil, u_cons, u_tup, u_lst, u_callP, u_call, u_b, u_chain, u_andV, u_addI, u_subI, u_mulI, u_divI, u_modI, u_powI, u_cmpI, u_eqI, u_eqS, u_eqB, u_abs, u_intI, u_intB, u_newT, u_newF, u_isN, u_notN, wVar, List.set_cons_zero, List.set_cons_succ, List.getElem?_cons_zero, List.getElem?_cons_succ, List.length_cons, List.length_nil, u_lc, u_for, u_r1, u_r2, u_r3, u_num, u_notV, u_yes, u_w0, u_w1, u_dput, u_get2, u_dget, u_prop, u_fld, u_setF, u_make, u_makeS, u_met, u_calO, u_orT, u_tupIt, u_dc, u_maxDd, u_dnew, u_tupi, ix_p0, ix_p1, wSl, woNone, woSome]
          have e : decide (((ps.length : Nat) : Int) = 0) = ps.isEmpty := by
            cases ps with
            | nil => rfl
            | cons a b => exact decide_eq_false (by rw [List.length_cons]; omega)
          rw [e]
          exact fin_of q
        · rw [if_neg c1] at q ⊢
          ((try dsimp only); rw [u_seq]; (try simp only [u_asg, u_gN, u_ret, u_retN, u_skip, u_expr, u_ifs, u_c, u_op, u_neg, u_test, u_and, u_or, u_not, u_if, u_nil, u_cons, u_tup, u_lst, u_callP, u_call, u_b, u_chain, u_andV, u_addI, u_subI, u_mulI, u_divI, u_modI, u_powI, u_cmpI, u_eqI, u_eqS, u_eqB, u_abs, u_intI, u_intB, u_newT, u_newF, u_isN, u_notN, wVar, List.set_cons_zero, List.set_cons_succ, List.getElem?_cons_zero, List.getElem?_cons_succ, List.length_cons, List.length_nil, u_lc, u_for, u_r1, u_r2, u_r3, u_num, u_notV, u_yes, u_w0, u_w1, u_dput, u_get2, u_dget, u_prop, u_fld, u_setF, u_make, u_makeS, u_met, u_calO, u_orT, u_tupIt, u_dc, u_maxDd, u_dnew, u_tupi, ix_p0, ix_p1, wSl, woNone, woSome]))
          by_cases c2 : w = "write"
          · rw [if_pos c2] at q
            rw [if_pos (decide_eq_true c2)]
            try simp only [u_asg, u_gN, u_ret, u_retN, u_skip, u_expr, u_ifs, u_c, u_op, u_neg, u_test, u_and, u_or, u_not, u_if, u_nil, u_cons, u_tup, u_lst, u_callP, u_call, u_b, u_chain, u_andV, u_addI, u_subI, u_mulI, u_divI, u_modI, u_powI, u_cmpI, u_eqI, u_eqS, u_eqB, u_abs, u_intI, u_intB, u_newT, u_newF, u_isN, u_notN, wVar, List.set_cons_zero, List.set_cons_succ, List.getElem?_cons_zero, List.getElem?_cons_succ, List.length_cons, List.length_nil, u_lc, u_for, u_r1, u_r2, u_r3, u_num, u_notV, u_yes, u_w0, u_w1, u_dput, u_get2, u_dget, u_prop, u_fld, u_setF, u_make, u_makeS, u_met, u_calO, u_orT, u_tupIt, u_dc, u_maxDd, u_dnew, u_tupi, ix_p0, ix_p1, wSl, woNone, woSome]
            refine len_of rfl ?_
            try simp only [u_asg, u_gN, u_ret, u_retN, u_skip, u_expr, u_ifs, u_c, u_op, u_neg, u_test, u_and, u_or, u_not, u_if, u_nil, u_cons, u_tup, u_lst, u_callP, u_call, u_b, u_chain, u_andV, u_addI, u_subI, u_mulI, u_divI, u_modI, u_powI, u_cmpI, u_eqI, u_eqS, u_eqB, u_abs, u_intI, u_intB, u_newT, u_newF, u_isN, u_notN, wVar, List.set_cons_zero, List.set_cons_succ, List.getElem?_cons_zero, List.getElem?_cons_succ, List.length_cons, List.length_nil, u_lc, u_for, u_r1, u_r2, u_r3, u_num, u_notV, u_yes, u_w0, u_w1, u_dput, u_get2, u_dget, u_prop, u_fld, u_setF, u_make, u_makeS, u_met, u_calO, u_orT, u_tupIt, u_dc, u_maxDd, u_dnew, u_tupi, ix_p0, ix_p1, wSl, woNone, woSome]
            match ps, hm, q with
            | [], _, q => exact fin_of q
            | [x], hm, q =>
              have hx1 := hm x (by simp)
              obtain ⟨t, ht⟩ := ty_th (h := h) hx1
              have d1 : decide ((([x] : List D).length : Int) = 1) = true := rfl
              rw [d1]
              simp only [if_true]
              rw [u_ixLd at0]
              exact ⟨trivial, x, t, 1, 2000, rfl, ht, fin_of q⟩
            | x :: y :: ps, _, q =>
              have d1 : decide (((x :: y :: ps).length : Int) = 1) = false := decide_eq_false (by simp only [List.length_cons]; omega)
              rw [d1]
              exact fin_of q
          · rw [if_neg c2] at q
            rw [if_neg (by rw [decide_eq_false c2]; decide)]
            ((try dsimp only); rw [u_seq]; (try simp only [u_asg, u_gN, u_ret, u_retN, u_skip, u_expr, u_ifs, u_c, u_op, u_neg, u_test, u_and, u_or, u_not, u_if, u_nil, u_cons, u_tup, u_lst, u_callP, u_call, u_b, u_chain, u_andV, u_addI, u_subI, u_mulI, u_divI, u_modI, u_powI, u_cmpI, u_eqI, u_eqS, u_eqB, u_abs, u_intI, u_intB, u_newT, u_newF, u_isN, u_notN, wVar, List.set_cons_zero, List.set_cons_succ, List.getElem?_cons_zero, List.getElem?_cons_succ, List.length_cons, List.length_nil, u_lc, u_for, u_r1, u_r2, u_r3, u_num, u_notV, u_yes, u_w0, u_w1, u_dput, u_get2, u_dget, u_prop, u_fld, u_setF, u_make, u_makeS, u_met, u_calO, u_orT, u_tupIt, u_dc, u_maxDd, u_dnew, u_tupi, ix_p0, ix_p1, wSl, woNone, woSome]))
            by_cases c3 : w = "fork"
            · rw [if_pos c3] at q
              rw [if_pos (decide_eq_true c3)]
              try simp only [u_asg, u_gN, u_ret, u_retN, u_skip, u_expr, u_ifs, u_c, u_op, u_neg, u_test, u_and, u_or, u_not, u_if, u_nil, u_cons, u_tup, u_lst, u_callP, u_call, u_b, u_chain, u_andV, u_addI, u_subI, u_mulI, u_divI, u_modI, u_powI, u_cmpI, u_eqI, u_eqS, u_eqB, u_abs, u_intI, u_intB, u_newT, u_newF, u_isN, u_notN, wVar, List.set_cons_zero, List.set_cons_succ, List.getElem?_cons_zero, List.getElem?_cons_succ, List.length_cons, List.length_nil, u_lc, u_for, u_r1, u_r2, u_r3, u_num, u_notV, u_yes, u_w0, u_w1, u_dput, u_get2, u_dget, u_prop, u_fld, u_setF, u_make, u_makeS, u_met, u_calO, u_orT, u_tupIt, u_dc, u_maxDd, u_dnew, u_tupi, ix_p0, ix_p1, wSl, woNone, woSome]
              refine len_of rfl ?_
              try simp only [u_asg, u_gN, u_ret, u_retN, u_skip, u_expr, u_ifs, u_c, u_op, u_neg, u_test, u_and, u_or, u_not, u_if, u_nil, u_cons, u_tup, u_lst, u_callP, u_call, u_b, u_chain, u_andV, u_addI, u_subI, u_mulI, u_divI, u_modI, u_powI, u_cmpI, u_eqI, u_eqS, u_eqB, u_abs, u_intI, u_intB, u_newT, u_newF, u_isN, u_notN, wVar, List.set_cons_zero, List.set_cons_succ, List.getElem?_cons_zero, List.getElem?_cons_succ, List.length_cons, List.length_nil, u_lc, u_for, u_r1, u_r2, u_r3, u_num, u_notV, u_yes, u_w0, u_w1, u_dput, u_get2, u_dget, u_prop, u_fld, u_setF, u_make, u_makeS, u_met, u_calO, u_orT, u_tupIt, u_dc, u_maxDd, u_dnew, u_tupi, ix_p0, ix_p1, wSl, woNone, woSome]
              match ps, hm, q with
              | [], _, q => exact fin_of q
              | [x], hm, q =>
                have hx1 := hm x (by simp)
                have d1 : decide ((([x] : List D).length : Int) = 1) = true := rfl
                rw [d1]
                simp only [if_true]
                rw [u_ixLd at0]
                exact go_tup hx1 (fin_of q)
              | x :: y :: ps, _, q =>
                have d1 : decide (((x :: y :: ps).length : Int) = 1) = false := decide_eq_false (by simp only [List.length_cons]; omega)
                rw [d1]
                exact fin_of q
            · rw [if_neg c3] at q
              rw [if_neg (by rw [decide_eq_false c3]; decide)]
              try simp only [u_asg, u_gN, u_ret, u_retN, u_skip, u_expr, u_ifs, u_c, u_op, u_neg, u_test, u_and, u_or, u_not, u_if, u_nil, u_cons, u_tup, u_lst, u_callP, u_call, u_b, u_chain, u_andV, u_addI, u_subI, u_mulI, u_divI, u_modI, u_powI, u_cmpI, u_eqI, u_eqS, u_eqB, u_abs, u_intI, u_intB, u_newT, u_newF, u_isN, u_notN, wVar, List.set_cons_zero, List.set_cons_succ, List.getElem?_cons_zero, List.getElem?_cons_succ, List.length_cons, List.length_nil, u_lc, u_for, u_r1, u_r2, u_r3, u_num, u_notV, u_yes, u_w0, u_w1, u_dput, u_get2, u_dget, u_prop, u_fld, u_setF, u_make, u_makeS, u_met, u_calO, u_orT, u_tupIt, u_dc, u_maxDd, u_dnew, u_tupi, ix_p0, ix_p1, wSl, woNone, woSome]
              by_cases c4 : w = "repeat"
              · rw [if_pos c4] at q
                rw [decide_eq_true c4]
                simp only [if_true]
                refine len_of rfl ?_
                try simp only [u_asg, u_gN, u_ret, u_retN, u_skip, u_expr, u_ifs, u_c, u_op, u_neg, u_test, u_and, u_or, u_not, u_if, u_nil, u_cons, u_tup, u_lst, u_callP, u_call, u_b, u_chain, u_andV, u_addI, u_subI, u_mulI, u_divI, u_modI, u_powI, u_cmpI, u_eqI, u_eqS, u_eqB, u_abs, u_intI, u_intB, u_newT, u_newF, u_isN, u_notN, wVar, List.set_cons_zero, List.set_cons_succ, List.getElem?_cons_zero, List.getElem?_cons_succ, List.length_cons, List.length_nil, u_lc, u_for, u_r1, u_r2, u_r3, u_num, u_notV, u_yes, u_w0, u_w1, u_dput, u_get2, u_dget, u_prop, u_fld, u_setF, u_make, u_makeS, u_met, u_calO, u_orT, u_tupIt, u_dc, u_maxDd, u_dnew, u_tupi, ix_p0, ix_p1, wSl, woNone, woSome]
                match ps, hm, q with
                | [], _, q => exact fin_of q
                | [x], _, q => exact fin_of q
                | [x, y], hm, q =>
                  have hx1 := hm x (by simp)
                  have hy1 := hm y (by simp)
                  obtain ⟨t, ht⟩ := ty_th (h := h) hx1
                  have d1 : decide ((([x, y] : List D).length : Int) = 2) = true := rfl
                  rw [d1]
                  simp only [if_true]
                  rw [u_ixLd at0]
                  refine ⟨trivial, x, t, 0, 300, rfl, ht, ?_⟩
                  dsimp only at q
                  cases cb : btw x 0 300 with
                  | false =>
                    rw [cb] at q
                    exact fin_of q
                  | true =>
                    rw [cb] at q
                    simp only [if_true]
                    rw [u_ixLd at1]
                    exact go_tup hy1 (fin_of q)
                | x :: y :: z :: ps, _, q =>
                  have d1 : decide (((x :: y :: z :: ps).length : Int) = 2) = false := decide_eq_false (by simp only [List.length_cons]; omega)
                  rw [d1]
                  exact fin_of q
              · rw [if_neg c4] at q
                rw [decide_eq_false c4]
                exact fin_of q
      | _ => exact fin_of q
  | _ => exact fin_of q
end K02
namespace K02
open PySem PySem.Spec L2 C8 DL
theorem big_size : 100000 ≤ sizeLine := by decide
theorem len_is_head : ∀ ds h Q X, S_is_head ds h Q X → ds.length = 1 := fun _ _ _ _ ⟨_, e, _⟩ => by rw [e]; rfl
theorem mo_is_head : MoF S_is_head := fun _ _ _ _ _ _ hq _ ⟨a, e, o, q⟩ => ⟨a, e, o, hq _ _ q⟩
theorem len_inner_of : ∀ ds h Q X, S_inner_of ds h Q X → ds.length = 1 := fun _ _ _ _ ⟨_, e, _⟩ => by rw [e]; rfl
theorem mo_inner_of : MoF S_inner_of := fun _ _ _ _ _ _ hq _ ⟨a, e, o, q⟩ => ⟨a, e, o, hq _ _ q⟩
theorem no_is_action : ∀ ds h Q X, ¬ S_is_action 0 ds h Q X := fun _ _ _ _ ⟨_, _, _, z, _⟩ => by omega
theorem no_is_body : ∀ ds h Q X, ¬ S_is_body 0 ds h Q X := fun _ _ _ _ ⟨_, _, _, z, _⟩ => by omega
theorem no__law_is_act : ∀ ds h Q X, ¬ S__law_is_act 0 ds h Q X := no_is_action
theorem no__law_are_acts : ∀ ds h Q X, ¬ S__law_are_acts 0 ds h Q X := no_is_body
theorem len_is_action (n : Nat) : ∀ ds h Q X, S_is_action n ds h Q X → ds.length = 1 := fun _ _ _ _ ⟨_, e, _⟩ => by rw [e]; rfl
theorem len_is_body (n : Nat) : ∀ ds h Q X, S_is_body n ds h Q X → ds.length = 1 := fun _ _ _ _ ⟨_, e, _⟩ => by rw [e]; rfl
theorem len__law_is_act (n : Nat) : ∀ ds h Q X, S__law_is_act n ds h Q X → ds.length = 1 := len_is_action n
theorem len__law_are_acts (n : Nat) : ∀ ds h Q X, S__law_are_acts n ds h Q X → ds.length = 1 := len_is_body n
theorem mo_is_action (n : Nat) : MoF (S_is_action n) := fun _ _ _ _ _ _ hq _ ⟨a, e, o, z, q⟩ => ⟨a, e, o, z, hq _ _ q⟩
theorem mo_is_body (n : Nat) : MoF (S_is_body n) := fun _ _ _ _ _ _ hq _ ⟨a, e, o, z, q⟩ => ⟨a, e, o, z, hq _ _ q⟩
theorem mo__law_is_act (n : Nat) : MoF (S__law_is_act n) := mo_is_action n
theorem mo__law_are_acts (n : Nat) : MoF (S__law_are_acts n) := mo_is_body n
/-- a head is a word and parts -/
theorem head_str {xs : List D} (h : headL xs = true) : ∃ w ps, xs = .str w :: ps := by
  cases xs with
  | nil => cases h
  | cons y ps =>
    cases y with
    | str w => exact ⟨w, ps, rfl⟩
    | _ => cases h
theorem bare_fork : bare "fork" = false := by decide +kernel
theorem bare_repeat : bare "repeat" = false := by decide +kernel
theorem bare_write : bare "write" = false := by decide +kernel
theorem head_fork {ps : List D} (h : headL (.str "fork" :: ps) = true) : ∃ x, ps = [x] ∧ isTup x = true := by
  unfold headL at h
  dsimp only at h
  rw [bare_fork, if_neg (by decide), if_neg (by decide), if_pos rfl] at h
  match ps, h with
  | [x], h => exact ⟨x, rfl, h⟩
theorem head_repeat {ps : List D} (h : headL (.str "repeat" :: ps) = true) : ∃ x y, ps = [x, y] ∧ btw x 0 300 = true ∧ isTup y = true := by
  unfold headL at h
  dsimp only at h
  rw [bare_repeat, if_neg (by decide), if_neg (by decide), if_neg (by decide), if_pos rfl] at h
  match ps, h with
  | [x, y], h => exact ⟨x, y, rfl, by simpa using h⟩
theorem in_two {w : Str} : inD (.str w) [.str "fork", .str "repeat"] = decide (w = "fork" ∨ w = "repeat") := by
  by_cases c1 : w = "fork"
  · subst c1; decide +kernel
  · by_cases c2 : w = "repeat"
    · subst c2; decide +kernel
    · rw [decide_eq_false (by simp [c1, c2])]
      simp [inD, eqFD, Ne.symm c1, Ne.symm c2]
theorem p_inner_of : ∀ ds h Q X, S_inner_of ds h Q X → w_inner_of (endsD Q X) (startD 1 ds) h := by
  rintro ds h Q X ⟨xs, rfl, hh, q⟩
  show w_inner_of (endsD Q X) [some (.tup xs)] h
  obtain ⟨w, ps, rfl⟩ := head_str hh
  unfold innD at q
  dsimp only at q
  simp only [w_inner_of, u_asg, u_gN, u_ret, u_retN, u_skip, u_expr, u_ifs, u_c, u_op, u_neg, u_test, u_and, u_or, u_not, u_if, u_nil, u_cons, u_tup, u_lst, u_callP, u_call, u_b, u_chain, u_andV, u_addI, u_subI, u_mulI, u_divI, u_modI, u_powI, u_cmpI, u_eqI, u_eqS, u_eqB, u_abs, u_intI, u_intB, u_newT, u_newF, u_isN, u_notN, wVar, List.set_cons_zero, List.set_cons_succ, List.getElem?_cons_zero, List.getElem?_cons_succ, List.length_cons, List.length_nil, u_lc, u_for, u_r1, u_r2, u_r3, u_num, u_notV, u_yes, u_w0, u_w1, u_dput, u_get2, u_dget, u_prop, u_fld, u_setF, u_make, u_makeS, u_met, u_calO, u_orT, u_tupIt, u_dc, u_maxDd, u_dnew, u_tupi, ix_p0, ix_p1, wSl, woNone, woSome]
  rw [u_ixTd at0]
  refine ⟨by decide, _, rfl, rfl, rfl, ?_⟩
  simp only [Bool.false_eq_true, if_false]
  rw [in_two]
  by_cases c : w = "fork" ∨ w = "repeat"
  · rw [if_pos c] at q
    rw [if_pos (decide_eq_true c)]
    rcases c with rfl | rfl
    · obtain ⟨x, rfl, _⟩ := head_fork hh
      exact ⟨_, _, rfl, rfl, fin_of q⟩
    · obtain ⟨x, y, rfl, _⟩ := head_repeat hh
      exact ⟨_, _, rfl, rfl, fin_of q⟩
  · rw [if_neg c] at q
    rw [if_neg (by rw [decide_eq_false c]; decide)]
    exact ⟨Nat.zero_le _, fin_of q⟩
/-- what is within is a thing, less deep -/
theorem inn_th {xs : List D} (hh : headL xs = true) (hx : th (.tup xs) = true) : th (innD xs) = true ∧ dep (innD xs) < dep (.tup xs) := by
  obtain ⟨w, ps, rfl⟩ := head_str hh
  obtain ⟨_, hm⟩ := th_tup hx
  have pos : 0 < dep (.tup (.str w :: ps)) := Nat.lt_of_lt_of_le (Nat.succ_pos _) (dep_tup (List.mem_cons_self ..))
  unfold innD
  dsimp only
  by_cases c : w = "fork" ∨ w = "repeat"
  · rw [if_pos c]
    rcases c with rfl | rfl
    · obtain ⟨x, rfl, _⟩ := head_fork hh
      exact ⟨hm x (by simp), dep_tup (by simp)⟩
    · obtain ⟨x, y, rfl, _⟩ := head_repeat hh
      exact ⟨hm y (by simp), dep_tup (by simp)⟩
  · rw [if_neg c]
    exact ⟨th_nil, by rw [dep_nil]; exact pos⟩
theorem actN_tup {n : Nat} {xs : List D} : actN (n + 1) (.tup xs) = (headL xs && bodyN n (innD xs)) := by rw [actN]
theorem bodyN_tup {n : Nat} {xs : List D} : bodyN (n + 1) (.tup xs) = xs.all fun y => actN n y := by rw [bodyN]
theorem actN_non {n : Nat} {x : D} (h : isTup x = false) : actN n x = false := by
  cases n with
  | zero => rw [actN]
  | succ n => cases x <;> first | (cases h; done) | (simp [actN]; done)
theorem bodyN_non {n : Nat} {x : D} (h : isTup x = false) : bodyN n x = false := by
  cases n with
  | zero => rw [bodyN]
  | succ n => cases x <;> first | (cases h; done) | (simp [bodyN]; done)
theorem tup_of {x : D} (h : isTup x = true) : ∃ xs, x = .tup xs := by cases x <;> first | exact ⟨_, rfl⟩ | cases h
theorem p_is_action (n : Nat) : ∀ ds h Q X, S_is_action (n + 1) ds h Q X → w_is_action n (endsD Q X) (startD 1 ds) h := by
  rintro ds h Q X ⟨x, rfl, hx, hd, q⟩
  show w_is_action n (endsD Q X) [some x] h
  simp only [w_is_action, u_asg, u_gN, u_ret, u_retN, u_skip, u_expr, u_ifs, u_c, u_op, u_neg, u_test, u_and, u_or, u_not, u_if, u_nil, u_cons, u_tup, u_lst, u_callP, u_call, u_b, u_chain, u_andV, u_addI, u_subI, u_mulI, u_divI, u_modI, u_powI, u_cmpI, u_eqI, u_eqS, u_eqB, u_abs, u_intI, u_intB, u_newT, u_newF, u_isN, u_notN, wVar, List.set_cons_zero, List.set_cons_succ, List.getElem?_cons_zero, List.getElem?_cons_succ, List.length_cons, List.length_nil, u_lc, u_for, u_r1, u_r2, u_r3, u_num, u_notV, u_yes, u_w0, u_w1, u_dput, u_get2, u_dget, u_prop, u_fld, u_setF, u_make, u_makeS, u_met, u_calO, u_orT, u_tupIt, u_dc, u_maxDd, u_dnew, u_tupi, ix_p0, ix_p1, wSl, woNone, woSome]
  refine ⟨trivial, x, rfl, hx, ?_⟩
  cases c : headD x with
  | false =>
    have e : actN (n + 1) x = false := by
      cases t : isTup x with
      | false => exact actN_non t
      | true =>
        obtain ⟨xs, rfl⟩ := tup_of t
        have c : headL xs = false := c
        rw [actN_tup, c]; rfl
    rw [e] at q
    exact fin_of q
  | true =>
    have t : isTup x = true := by cases x <;> first | rfl | cases c
    obtain ⟨xs, rfl⟩ := tup_of t
    have c : headL xs = true := c
    obtain ⟨h1, h2⟩ := inn_th c hx
    simp only [if_true]
    refine ⟨trivial, xs, rfl, c, trivial, _, rfl, h1, by omega, ?_⟩
    rw [actN_tup, c] at q
    exact fin_of q
theorem p_is_body (n : Nat) : ∀ ds h Q X, S_is_body (n + 1) ds h Q X → w_is_body n (endsD Q X) (startD 2 ds) h := by
  rintro ds h Q X ⟨x, rfl, hx, hd, q⟩
  show w_is_body n (endsD Q X) [some x, none] h
  have big := big_size
  simp only [w_is_body, u_asg, u_gN, u_ret, u_retN, u_skip, u_expr, u_ifs, u_c, u_op, u_neg, u_test, u_and, u_or, u_not, u_if, u_nil, u_cons, u_tup, u_lst, u_callP, u_call, u_b, u_chain, u_andV, u_addI, u_subI, u_mulI, u_divI, u_modI, u_powI, u_cmpI, u_eqI, u_eqS, u_eqB, u_abs, u_intI, u_intB, u_newT, u_newF, u_isN, u_notN, wVar, List.set_cons_zero, List.set_cons_succ, List.getElem?_cons_zero, List.getElem?_cons_succ, List.length_cons, List.length_nil, u_lc, u_for, u_r1, u_r2, u_r3, u_num, u_notV, u_yes, u_w0, u_w1, u_dput, u_get2, u_dget, u_prop, u_fld, u_setF, u_make, u_makeS, u_met, u_calO, u_orT, u_tupIt, u_dc, u_maxDd, u_dnew, u_tupi, ix_p0, ix_p1, wSl, woNone, woSome]
  refine go_tup hx ?_
  cases t : isTup x with
  | false =>
    rw [bodyN_non t] at q
    exact fin_of q
  | true =>
    obtain ⟨xs, rfl⟩ := tup_of t
    obtain ⟨hl, hm⟩ := th_tup hx
    simp only [if_true]
    intro p hp
    refine comp_pure (fun y => some (.bl (actN n y))) (fun _ => trivial) (by omega) ?_ ?_
    · intro y acc K hy la k
      simp only [u_asg, u_gN, u_ret, u_retN, u_skip, u_expr, u_ifs, u_c, u_op, u_neg, u_test, u_and, u_or, u_not, u_if, u_nil, u_cons, u_tup, u_lst, u_callP, u_call, u_b, u_chain, u_andV, u_addI, u_subI, u_mulI, u_divI, u_modI, u_powI, u_cmpI, u_eqI, u_eqS, u_eqB, u_abs, u_intI, u_intB, u_newT, u_newF, u_isN, u_notN, wVar, List.set_cons_zero, List.set_cons_succ, List.getElem?_cons_zero, List.getElem?_cons_succ, List.length_cons, List.length_nil, u_lc, u_for, u_r1, u_r2, u_r3, u_num, u_notV, u_yes, u_w0, u_w1, u_dput, u_get2, u_dget, u_prop, u_fld, u_setF, u_make, u_makeS, u_met, u_calO, u_orT, u_tupIt, u_dc, u_maxDd, u_dnew, u_tupi, ix_p0, ix_p1, wSl, woNone, woSome]
      have := dep_tup hy
      exact ⟨trivial, y, rfl, hm y hy, by omega, acc, up_same, la, by rw [up_up]; exact k⟩
    · refine endF hp ⟨_, xs.map (actN n), rfl, ?_, fin_of ?_⟩
      · show some (xs.filterMap fun y => some (D.bl (actN n y))) = _
        rw [List.map_map, List.filterMap_eq_map']
        rfl
      · rw [bodyN_tup] at q
        rw [List.all_map]
        exact q
theorem p__law_are_acts (n : Nat) : ∀ ds h Q X, S__law_are_acts (n + 1) ds h Q X → w__law_are_acts n (endsD Q X) (startD 2 ds) h := by
  rintro ds h Q X ⟨x, rfl, hx, hd, q⟩
  show w__law_are_acts n (endsD Q X) [some x, none] h
  have big := big_size
  simp only [w__law_are_acts, u_asg, u_gN, u_ret, u_retN, u_skip, u_expr, u_ifs, u_c, u_op, u_neg, u_test, u_and, u_or, u_not, u_if, u_nil, u_cons, u_tup, u_lst, u_callP, u_call, u_b, u_chain, u_andV, u_addI, u_subI, u_mulI, u_divI, u_modI, u_powI, u_cmpI, u_eqI, u_eqS, u_eqB, u_abs, u_intI, u_intB, u_newT, u_newF, u_isN, u_notN, wVar, List.set_cons_zero, List.set_cons_succ, List.getElem?_cons_zero, List.getElem?_cons_succ, List.length_cons, List.length_nil, u_lc, u_for, u_r1, u_r2, u_r3, u_num, u_notV, u_yes, u_w0, u_w1, u_dput, u_get2, u_dget, u_prop, u_fld, u_setF, u_make, u_makeS, u_met, u_calO, u_orT, u_tupIt, u_dc, u_maxDd, u_dnew, u_tupi, ix_p0, ix_p1, wSl, woNone, woSome]
  refine go_tup hx ?_
  cases t : isTup x with
  | false =>
    rw [bodyN_non t] at q
    exact fin_of q
  | true =>
    obtain ⟨xs, rfl⟩ := tup_of t
    obtain ⟨hl, hm⟩ := th_tup hx
    simp only [if_true]
    intro p hp
    refine comp_pure (fun y => if actN n y = true then none else some y) (fun _ => trivial) (by omega) ?_ ?_
    · intro y acc K hy la k
      simp only [u_asg, u_gN, u_ret, u_retN, u_skip, u_expr, u_ifs, u_c, u_op, u_neg, u_test, u_and, u_or, u_not, u_if, u_nil, u_cons, u_tup, u_lst, u_callP, u_call, u_b, u_chain, u_andV, u_addI, u_subI, u_mulI, u_divI, u_modI, u_powI, u_cmpI, u_eqI, u_eqS, u_eqB, u_abs, u_intI, u_intB, u_newT, u_newF, u_isN, u_notN, wVar, List.set_cons_zero, List.set_cons_succ, List.getElem?_cons_zero, List.getElem?_cons_succ, List.length_cons, List.length_nil, u_lc, u_for, u_r1, u_r2, u_r3, u_num, u_notV, u_yes, u_w0, u_w1, u_dput, u_get2, u_dget, u_prop, u_fld, u_setF, u_make, u_makeS, u_met, u_calO, u_orT, u_tupIt, u_dc, u_maxDd, u_dnew, u_tupi, ix_p0, ix_p1, wSl, woNone, woSome]
      have := dep_tup hy
      refine ⟨trivial, y, rfl, hm y hy, by omega, ?_⟩
      cases c : actN n y with
      | true =>
        rw [c] at k
        simpa using k
      | false =>
        rw [c] at k
        exact ⟨acc, up_same, la, by rw [up_up]; exact k⟩
    · refine endF hp ?_
      try simp only [u_asg, u_gN, u_ret, u_retN, u_skip, u_expr, u_ifs, u_c, u_op, u_neg, u_test, u_and, u_or, u_not, u_if, u_nil, u_cons, u_tup, u_lst, u_callP, u_call, u_b, u_chain, u_andV, u_addI, u_subI, u_mulI, u_divI, u_modI, u_powI, u_cmpI, u_eqI, u_eqS, u_eqB, u_abs, u_intI, u_intB, u_newT, u_newF, u_isN, u_notN, wVar, List.set_cons_zero, List.set_cons_succ, List.getElem?_cons_zero, List.getElem?_cons_succ, List.length_cons, List.length_nil, u_lc, u_for, u_r1, u_r2, u_r3, u_num, u_notV, u_yes, u_w0, u_w1, u_dput, u_get2, u_dget, u_prop, u_fld, u_setF, u_make, u_makeS, u_met, u_calO, u_orT, u_tupIt, u_dc, u_maxDd, u_dnew, u_tupi, ix_p0, ix_p1, wSl, woNone, woSome]
      refine ⟨Nat.zero_le _, _, rfl, ?_⟩
      have e : (xs.filterMap fun y => if actN n y = true then none else some y).isEmpty = bodyN (n + 1) (.tup xs) := by
        rw [bodyN_tup]
        clear q hd t hx hl hm
        induction xs with
        | nil => rfl
        | cons y ys ih =>
          rw [List.filterMap_cons, List.all_cons]
          cases actN n y with
          | true => exact ih
          | false => rfl
      rw [e]
      exact fin_of q
end K02
namespace K02
open PySem PySem.Spec L2 C8 DL
/-- the words' numbers: least, parts -/
def wLeast (w : Str) : Int := if w = "write" then 1 else 0
def wParts (w : Str) : Int := if w = "write" then 2 else if w = "repeat" then 3 else 0
abbrev kStr (w : Str) : Key := Sum.inr w
def tbl : List (Key × D) := [(kStr "write", D.tup [.int 1, .int 2]), (kStr "repeat", .tup [.int 0, .int 3])]
theorem table_get {w : Str} : (valD (mergeD tbl) (kStr w)).getD (.tup [.int 0, .int 0]) = .tup [.int (wLeast w), .int (wParts w)] := by
  have ne : ¬ (kStr "write" = kStr "repeat") := by decide +kernel
  have e : mergeD tbl = tbl := by
    unfold mergeD tbl
    simp [putD, ne]
  rw [e]
  unfold valD wLeast wParts tbl
  by_cases c1 : w = "write"
  · subst c1; simp [List.find?]
  · have n1 : ¬ (kStr "write" = kStr w) := fun z => c1 (Sum.inr.inj z).symm
    by_cases c2 : w = "repeat"
    · subst c2; simp [List.find?, n1, c1]
    · have n2 : ¬ (kStr "repeat" = kStr w) := fun z => c2 (Sum.inr.inj z).symm
      simp [List.find?, n1, n2, c1, c2]
theorem act_bare {w : Str} {ps : List D} {n : Nat} (c : bare w = true) (hn : 0 < n) : (headL (.str w :: ps) && bodyN n (innD (.str w :: ps))) = ps.isEmpty := by
  have n1 : w ≠ "fork" := fun z => by rw [z, bare_fork] at c; cases c
  have n2 : w ≠ "repeat" := fun z => by rw [z, bare_repeat] at c; cases c
  unfold headL innD
  dsimp only
  rw [if_pos c, if_neg (by simp [n1, n2])]
  obtain ⟨m, rfl⟩ : ∃ m, n = m + 1 := ⟨n - 1, by omega⟩
  rw [bodyN_tup, List.all_nil, Bool.and_true]
theorem act_fork {ps : List D} {n : Nat} : (headL (.str "fork" :: ps) && bodyN n (innD (.str "fork" :: ps))) = (match ps with
    | [x] => bodyN n x
    | _ => false) := by
  match ps with
  | [] => rfl
  | [x] =>
    have e : headL [.str "fork", x] = isTup x := by
      unfold headL; dsimp only; rw [bare_fork, if_neg (by decide), if_neg (by decide), if_pos rfl]
    rw [e]
    show (isTup x && bodyN n x) = bodyN n x
    cases t : isTup x with
    | true => rfl
    | false => rw [bodyN_non t]; rfl
  | x :: y :: ps =>
    have e : headL (.str "fork" :: x :: y :: ps) = false := by
      unfold headL; dsimp only; rw [bare_fork, if_neg (by decide), if_neg (by decide), if_pos rfl]
    rw [e]; rfl
theorem act_write {ps : List D} {n : Nat} (hn : 0 < n) : (headL (.str "write" :: ps) && bodyN n (innD (.str "write" :: ps))) = (match ps with
    | [x] => btw x 1 2000
    | _ => false) := by
  have ei : innD (.str "write" :: ps) = .tup [] := by
    unfold innD; dsimp only; rw [if_neg (by decide)]
  obtain ⟨m, rfl⟩ : ∃ m, n = m + 1 := ⟨n - 1, by omega⟩
  rw [ei, bodyN_tup, List.all_nil, Bool.and_true]
  unfold headL; dsimp only; rw [bare_write, if_neg (by decide), if_pos rfl]
  try rfl
theorem act_repeat {ps : List D} {n : Nat} : (headL (.str "repeat" :: ps) && bodyN n (innD (.str "repeat" :: ps))) = (match ps with
    | [x, y] => btw x 0 300 && bodyN n y
    | _ => false) := by
  have eh : ∀ ps, headL (.str "repeat" :: ps) = (match ps with
      | [x, y] => btw x 0 300 && isTup y
      | _ => false) := fun ps => by
    unfold headL; dsimp only; rw [bare_repeat, if_neg (by decide), if_neg (by decide), if_neg (by decide), if_pos rfl]
    try rfl
  rw [eh]
  match ps with
  | [] => rfl
  | [x] => rfl
  | [x, y] =>
    show (btw x 0 300 && isTup y && bodyN n y) = _
    cases t : isTup y with
    | true => rw [Bool.and_true]
    | false =>
      show (btw x 0 300 && false && bodyN n y) = (btw x 0 300 && bodyN n y)
      rw [bodyN_non t, Bool.and_false, Bool.and_false]
  | x :: y :: z :: ps => rfl
theorem act_other {w : Str} {ps : List D} {n : Nat} (c1 : ¬ bare w = true) (c2 : w ≠ "write") (c3 : w ≠ "fork") (c4 : w ≠ "repeat") : (headL (.str w :: ps) && bodyN n (innD (.str w :: ps))) = false := by
  unfold headL; dsimp only
  rw [if_neg c1, if_neg c2, if_neg c3, if_neg c4]; rfl
theorem u_disp {ps : List (WE × WE)} {ρ : EnvD} {h : AH} {Q : KD} {X : KX} : wDisp ps ρ h Q X = ∀ p, h p = none → wPairs ps ρ (up h p (.dK [])) (fun ps h2 => h2 p = some (.dK []) ∧ ∃ kvs : List (Key × D), ps = kvs.map (fun kv => (kD kv.1, kv.2)) ∧ kvs.length ≤ 15 ∧ Q (.ref p) (up h2 p (.dK (mergeD kvs)))) X := rfl
theorem len_is {a : D} {as : List D} {k : Int} : decide ((((a :: as).length : Nat) : Int) = k) = decide ((as.length : Int) = k - 1) := by
  rw [List.length_cons]
  by_cases c : (as.length : Int) = k - 1
  · rw [decide_eq_true c]; exact decide_eq_true (by omega)
  · rw [decide_eq_false c]; exact decide_eq_false (by omega)
theorem p__law_is_act (n : Nat) : ∀ ds h Q X, S__law_is_act (n + 1) ds h Q X → w__law_is_act n (endsD Q X) (startD 4 ds) h := by
  rintro ds h Q X ⟨x, rfl, hx, hd, q⟩
  show w__law_is_act n (endsD Q X) [some x, none, none, none] h
  unfold w__law_is_act
  ((try dsimp only); rw [u_seq]; (try simp only [u_asg, u_gN, u_ret, u_retN, u_skip, u_expr, u_ifs, u_c, u_op, u_neg, u_test, u_and, u_or, u_not, u_if, u_nil, u_cons, u_tup, u_lst, u_callP, u_call, u_b, u_chain, u_andV, u_addI, u_subI, u_mulI, u_divI, u_modI, u_powI, u_cmpI, u_eqI, u_eqS, u_eqB, u_abs, u_intI, u_intB, u_newT, u_newF, u_isN, u_notN, wVar, List.set_cons_zero, List.set_cons_succ, List.getElem?_cons_zero, List.getElem?_cons_succ, List.length_cons, List.length_nil, u_lc, u_for, u_r1, u_r2, u_r3, u_num, u_notV, u_yes, u_w0, u_w1, u_dput, u_get2, u_dget, u_prop, u_fld, u_setF, u_make, u_makeS, u_met, u_calO, u_orT, u_tupIt, u_dc, u_maxDd, u_dnew, u_tupi, ix_p0, ix_p1, wSl, woNone, woSome]))
  refine go_tup hx ?_
  cases t : isTup x with
  | false =>
    rw [actN_non t] at q
    exact fin_of q
  | true =>
    obtain ⟨xs, rfl⟩ := tup_of t
    obtain ⟨hl, hm⟩ := th_tup hx
    rw [actN_tup] at q
    simp only [Bool.not_true, Bool.false_eq_true, if_false]
    refine ⟨Nat.zero_le _, xs, .inl rfl, ?_⟩
    cases xs with
    | nil => exact fin_of q
    | cons y ps =>
      have hy := hm y (List.mem_cons_self ..)
      simp only [List.isEmpty_cons, Bool.false_eq_true, if_false]
      rw [u_ixTd at0]
      refine go_str hy ?_
      cases y with
      | str w =>
        simp only [isStrD, Bool.not_true, Bool.false_eq_true, if_false]
        ((try dsimp only); rw [u_seq]; (try simp only [u_asg, u_gN, u_ret, u_retN, u_skip, u_expr, u_ifs, u_c, u_op, u_neg, u_test, u_and, u_or, u_not, u_if, u_nil, u_cons, u_tup, u_lst, u_callP, u_call, u_b, u_chain, u_andV, u_addI, u_subI, u_mulI, u_divI, u_modI, u_powI, u_cmpI, u_eqI, u_eqS, u_eqB, u_abs, u_intI, u_intB, u_newT, u_newF, u_isN, u_notN, wVar, List.set_cons_zero, List.set_cons_succ, List.getElem?_cons_zero, List.getElem?_cons_succ, List.length_cons, List.length_nil, u_lc, u_for, u_r1, u_r2, u_r3, u_num, u_notV, u_yes, u_w0, u_w1, u_dput, u_get2, u_dget, u_prop, u_fld, u_setF, u_make, u_makeS, u_met, u_calO, u_orT, u_tupIt, u_dc, u_maxDd, u_dnew, u_tupi, ix_p0, ix_p1, wSl, woNone, woSome]))
        rw [u_ixTd at0]
        refine ⟨(by decide : 6 ≤ sizeLine), isi_in ?_⟩
        dsimp only
        have np : 0 < n := by
          have := dep_tup (xs := .str w :: ps) (List.mem_cons_self ..)
          omega
        by_cases c1 : bare w = true
        · rw [act_bare c1 np] at q
          rw [if_pos c1]
          simp only [u_lenT]
          try simp only [u_asg, u_gN, u_ret, u_retN, u_skip, u_expr, u_ifs, u_c, u_op, u_neg, u_test, u_and, u_or, u_not, u_if, u_nil, u_cons, u_tup, u_lst, u_callP, u_call, u_b, u_chain, u_andV, u_addI, u_subI, u_mulI, u_divI, u_modI, u_powI, u_cmpI, u_eqI, u_eqS, u_eqB, u_abs, u_intI, u_intB, u_newT, u_newF, u_isN, u_notN, wVar, List.set_cons_zero, List.set_cons_succ, List.getElem?_cons_zero, List.getElem?_cons_succ, List.length_cons, List.length_nil, u_lc, u_for, u_r1, u_r2, u_r3, u_num, u_notV, u_yes, u_w0, u_w1, u_dput, u_get2, u_dget, u_prop, u_fld, u_setF, u_make, u_makeS, u_met, u_calO, u_orT, u_tupIt, u_dc, u_maxDd, u_dnew, u_tupi, ix_p0, ix_p1, wSl, woNone, woSome]
          have e : decide ((((D.str w :: ps).length : Nat) : Int) = 1) = ps.isEmpty := by
            rw [len_is]
            cases ps with
            | nil => rfl
            | cons a b => exact decide_eq_false (by rw [List.length_cons]; omega)
          simp only [List.length_cons] at e
          rw [e]
          exact fin_of q
        · rw [if_neg c1]
          ((try dsimp only); rw [u_seq]; (try simp only [u_asg, u_gN, u_ret, u_retN, u_skip, u_expr, u_ifs, u_c, u_op, u_neg, u_test, u_and, u_or, u_not, u_if, u_nil, u_cons, u_tup, u_lst, u_callP, u_call, u_b, u_chain, u_andV, u_addI, u_subI, u_mulI, u_divI, u_modI, u_powI, u_cmpI, u_eqI, u_eqS, u_eqB, u_abs, u_intI, u_intB, u_newT, u_newF, u_isN, u_notN, wVar, List.set_cons_zero, List.set_cons_succ, List.getElem?_cons_zero, List.getElem?_cons_succ, List.length_cons, List.length_nil, u_lc, u_for, u_r1, u_r2, u_r3, u_num, u_notV, u_yes, u_w0, u_w1, u_dput, u_get2, u_dget, u_prop, u_fld, u_setF, u_make, u_makeS, u_met, u_calO, u_orT, u_tupIt, u_dc, u_maxDd, u_dnew, u_tupi, ix_p0, ix_p1, wSl, woNone, woSome]))
          rw [u_ixTd at0]
          try simp only [u_asg, u_gN, u_ret, u_retN, u_skip, u_expr, u_ifs, u_c, u_op, u_neg, u_test, u_and, u_or, u_not, u_if, u_nil, u_cons, u_tup, u_lst, u_callP, u_call, u_b, u_chain, u_andV, u_addI, u_subI, u_mulI, u_divI, u_modI, u_powI, u_cmpI, u_eqI, u_eqS, u_eqB, u_abs, u_intI, u_intB, u_newT, u_newF, u_isN, u_notN, wVar, List.set_cons_zero, List.set_cons_succ, List.getElem?_cons_zero, List.getElem?_cons_succ, List.length_cons, List.length_nil, u_lc, u_for, u_r1, u_r2, u_r3, u_num, u_notV, u_yes, u_w0, u_w1, u_dput, u_get2, u_dget, u_prop, u_fld, u_setF, u_make, u_makeS, u_met, u_calO, u_orT, u_tupIt, u_dc, u_maxDd, u_dnew, u_tupi, ix_p0, ix_p1, wSl, woNone, woSome]
          by_cases c3 : w = "fork"
          · subst c3
            rw [act_fork] at q
            rw [if_pos (decide_eq_true rfl)]
            simp only [u_lenT]
            try simp only [u_asg, u_gN, u_ret, u_retN, u_skip, u_expr, u_ifs, u_c, u_op, u_neg, u_test, u_and, u_or, u_not, u_if, u_nil, u_cons, u_tup, u_lst, u_callP, u_call, u_b, u_chain, u_andV, u_addI, u_subI, u_mulI, u_divI, u_modI, u_powI, u_cmpI, u_eqI, u_eqS, u_eqB, u_abs, u_intI, u_intB, u_newT, u_newF, u_isN, u_notN, wVar, List.set_cons_zero, List.set_cons_succ, List.getElem?_cons_zero, List.getElem?_cons_succ, List.length_cons, List.length_nil, u_lc, u_for, u_r1, u_r2, u_r3, u_num, u_notV, u_yes, u_w0, u_w1, u_dput, u_get2, u_dget, u_prop, u_fld, u_setF, u_make, u_makeS, u_met, u_calO, u_orT, u_tupIt, u_dc, u_maxDd, u_dnew, u_tupi, ix_p0, ix_p1, wSl, woNone, woSome]
            match ps, hm, hd, q with
            | [], _, _, q => exact fin_of q
            | [x], hm, hd, q =>
              have dd := dep_tup (xs := [.str "fork", x]) (x := x) (by simp)
              have d1 : decide (((([x] : List D).length + 1 : Nat) : Int) = 2) = true := rfl
              rw [d1]
              simp only [if_true]
              rw [u_ixTd at1]
              exact ⟨trivial, x, rfl, hm x (by simp), by omega, fin_of q⟩
            | x :: y :: ps, _, _, q =>
              have d1 : decide (((((x :: y :: ps).length + 1 : Nat)) : Int) = 2) = false := decide_eq_false (by simp only [List.length_cons]; omega)
              rw [d1]
              exact fin_of q
          · rw [if_neg (by rw [decide_eq_false c3]; decide)]
            try dsimp only
            rw [u_seq, u_asg, u_get2, u_disp]
            intro p hp
            simp only [wPairs, u_asg, u_gN, u_ret, u_retN, u_skip, u_expr, u_ifs, u_c, u_op, u_neg, u_test, u_and, u_or, u_not, u_if, u_nil, u_cons, u_tup, u_lst, u_callP, u_call, u_b, u_chain, u_andV, u_addI, u_subI, u_mulI, u_divI, u_modI, u_powI, u_cmpI, u_eqI, u_eqS, u_eqB, u_abs, u_intI, u_intB, u_newT, u_newF, u_isN, u_notN, wVar, List.set_cons_zero, List.set_cons_succ, List.getElem?_cons_zero, List.getElem?_cons_succ, List.length_cons, List.length_nil, u_lc, u_for, u_r1, u_r2, u_r3, u_num, u_notV, u_yes, u_w0, u_w1, u_dput, u_get2, u_dget, u_prop, u_fld, u_setF, u_make, u_makeS, u_met, u_calO, u_orT, u_tupIt, u_dc, u_maxDd, u_dnew, u_tupi, ix_p0, ix_p1, wSl, woNone, woSome]
            refine ⟨by decide, by decide, up_same, tbl, rfl, by decide, ?_⟩
            rw [up_up]
            have fin2 : ∀ b, Q (.bl b) h → (endsD Q X).rt (.bl b) (up h p (.dK (mergeD tbl))) := fun b q => fin_sub (sub_up hp) q
            have hd1 : (up h p (.dK (mergeD tbl))) p = some (.dK (mergeD tbl)) := up_same
            generalize up h p (.dK (mergeD tbl)) = g at fin2 hd1 ⊢
            refine ⟨by rw [dk_ref hd1]; rfl, ?_⟩
            rw [u_ixTd at0]
            refine ⟨by decide, mergeD tbl, kStr w, dk_ref hd1, rfl, ?_⟩
            rw [table_get]
            refine ⟨_, rfl, rfl, _, _, rfl, _, _, rfl, rfl, ?_⟩
            ((try dsimp only); rw [u_seq]; (try simp only [u_asg, u_gN, u_ret, u_retN, u_skip, u_expr, u_ifs, u_c, u_op, u_neg, u_test, u_and, u_or, u_not, u_if, u_nil, u_cons, u_tup, u_lst, u_callP, u_call, u_b, u_chain, u_andV, u_addI, u_subI, u_mulI, u_divI, u_modI, u_powI, u_cmpI, u_eqI, u_eqS, u_eqB, u_abs, u_intI, u_intB, u_newT, u_newF, u_isN, u_notN, wVar, List.set_cons_zero, List.set_cons_succ, List.getElem?_cons_zero, List.getElem?_cons_succ, List.length_cons, List.length_nil, u_lc, u_for, u_r1, u_r2, u_r3, u_num, u_notV, u_yes, u_w0, u_w1, u_dput, u_get2, u_dget, u_prop, u_fld, u_setF, u_make, u_makeS, u_met, u_calO, u_orT, u_tupIt, u_dc, u_maxDd, u_dnew, u_tupi, ix_p0, ix_p1, wSl, woNone, woSome]))
            simp only [u_lenT]
            try simp only [u_asg, u_gN, u_ret, u_retN, u_skip, u_expr, u_ifs, u_c, u_op, u_neg, u_test, u_and, u_or, u_not, u_if, u_nil, u_cons, u_tup, u_lst, u_callP, u_call, u_b, u_chain, u_andV, u_addI, u_subI, u_mulI, u_divI, u_modI, u_powI, u_cmpI, u_eqI, u_eqS, u_eqB, u_abs, u_intI, u_intB, u_newT, u_newF, u_isN, u_notN, wVar, List.set_cons_zero, List.set_cons_succ, List.getElem?_cons_zero, List.getElem?_cons_succ, List.length_cons, List.length_nil, u_lc, u_for, u_r1, u_r2, u_r3, u_num, u_notV, u_yes, u_w0, u_w1, u_dput, u_get2, u_dget, u_prop, u_fld, u_setF, u_make, u_makeS, u_met, u_calO, u_orT, u_tupIt, u_dc, u_maxDd, u_dnew, u_tupi, ix_p0, ix_p1, wSl, woNone, woSome]
            by_cases c2 : w = "write"
            · subst c2
              rw [act_write np] at q
              rw [show wParts "write" = 2 by decide +kernel, show wLeast "write" = 1 by decide +kernel]
              match ps, hm, hd, q with
              | [], _, _, q => exact fin2 _ q
              | x :: y :: ps, _, _, q =>
                have d1 : decide (((((x :: y :: ps) : List D).length + 1 : Nat) : Int) = 2) = false := decide_eq_false (by simp only [List.length_cons]; omega)
                rw [d1]
                exact fin2 _ q
              | [x], hm, hd, q =>
                have hx1 := hm x (by simp)
                have d1 : decide (((([x] : List D).length + 1 : Nat) : Int) = 2) = true := rfl
                rw [d1]
                simp only [Bool.not_true, Bool.false_eq_true, if_false]
                rw [u_ixTd at1]
                refine go_int hx1 ?_
                cases x with
                | int i =>
                  simp only [isIntB, Bool.not_true, Bool.false_eq_true, if_false]
                  rw [u_ixTd at1]
                  refine go_bl hx1 ?_
                  simp only [isBl, Bool.false_eq_true, if_false]
                  ((try dsimp only); rw [u_seq]; (try simp only [u_asg, u_gN, u_ret, u_retN, u_skip, u_expr, u_ifs, u_c, u_op, u_neg, u_test, u_and, u_or, u_not, u_if, u_nil, u_cons, u_tup, u_lst, u_callP, u_call, u_b, u_chain, u_andV, u_addI, u_subI, u_mulI, u_divI, u_modI, u_powI, u_cmpI, u_eqI, u_eqS, u_eqB, u_abs, u_intI, u_intB, u_newT, u_newF, u_isN, u_notN, wVar, List.set_cons_zero, List.set_cons_succ, List.getElem?_cons_zero, List.getElem?_cons_succ, List.length_cons, List.length_nil, u_lc, u_for, u_r1, u_r2, u_r3, u_num, u_notV, u_yes, u_w0, u_w1, u_dput, u_get2, u_dget, u_prop, u_fld, u_setF, u_make, u_makeS, u_met, u_calO, u_orT, u_tupIt, u_dc, u_maxDd, u_dnew, u_tupi, ix_p0, ix_p1, wSl, woNone, woSome]))
                  refine ⟨by decide, ?_⟩
                  rw [u_ixLd at1]
                  try simp only [u_asg, u_gN, u_ret, u_retN, u_skip, u_expr, u_ifs, u_c, u_op, u_neg, u_test, u_and, u_or, u_not, u_if, u_nil, u_cons, u_tup, u_lst, u_callP, u_call, u_b, u_chain, u_andV, u_addI, u_subI, u_mulI, u_divI, u_modI, u_powI, u_cmpI, u_eqI, u_eqS, u_eqB, u_abs, u_intI, u_intB, u_newT, u_newF, u_isN, u_notN, wVar, List.set_cons_zero, List.set_cons_succ, List.getElem?_cons_zero, List.getElem?_cons_succ, List.length_cons, List.length_nil, u_lc, u_for, u_r1, u_r2, u_r3, u_num, u_notV, u_yes, u_w0, u_w1, u_dput, u_get2, u_dget, u_prop, u_fld, u_setF, u_make, u_makeS, u_met, u_calO, u_orT, u_tupIt, u_dc, u_maxDd, u_dnew, u_tupi, ix_p0, ix_p1, wSl, woNone, woSome]
                  rw [u_ixTd at1]
                  try simp only [u_asg, u_gN, u_ret, u_retN, u_skip, u_expr, u_ifs, u_c, u_op, u_neg, u_test, u_and, u_or, u_not, u_if, u_nil, u_cons, u_tup, u_lst, u_callP, u_call, u_b, u_chain, u_andV, u_addI, u_subI, u_mulI, u_divI, u_modI, u_powI, u_cmpI, u_eqI, u_eqS, u_eqB, u_abs, u_intI, u_intB, u_newT, u_newF, u_isN, u_notN, wVar, List.set_cons_zero, List.set_cons_succ, List.getElem?_cons_zero, List.getElem?_cons_succ, List.length_cons, List.length_nil, u_lc, u_for, u_r1, u_r2, u_r3, u_num, u_notV, u_yes, u_w0, u_w1, u_dput, u_get2, u_dget, u_prop, u_fld, u_setF, u_make, u_makeS, u_met, u_calO, u_orT, u_tupIt, u_dc, u_maxDd, u_dnew, u_tupi, ix_p0, ix_p1, wSl, woNone, woSome]
                  have q : Q (.bl (decide (1 ≤ i) && decide (i ≤ 2000))) h := q
                  by_cases b1 : 1 ≤ i
                  · rw [decide_eq_true b1] at q ⊢
                    simp only [if_true]
                    by_cases b2 : i ≤ 2000
                    · rw [decide_eq_true b2] at q ⊢
                      exact fin2 _ q
                    · rw [decide_eq_false b2] at q ⊢
                      exact fin2 _ q
                  · rw [decide_eq_false b1] at q ⊢
                    exact fin2 _ q
                | bl b =>
                  simp only [isIntB, Bool.not_true, Bool.false_eq_true, if_false]
                  rw [u_ixTd at1]
                  refine go_bl hx1 ?_
                  simp only [isBl, if_true]
                  exact fin2 _ q
                | _ => exact fin2 _ q
            · by_cases c4 : w = "repeat"
              · subst c4
                rw [act_repeat] at q
                rw [show wParts "repeat" = 3 by decide +kernel, show wLeast "repeat" = 0 by decide +kernel]
                match ps, hm, hd, q with
                | [], _, _, q => exact fin2 _ q
                | [x], _, _, q => exact fin2 _ q
                | x :: y :: z :: ps, _, _, q =>
                  have d1 : decide (((((x :: y :: z :: ps) : List D).length + 1 : Nat) : Int) = 3) = false := decide_eq_false (by simp only [List.length_cons]; omega)
                  rw [d1]
                  exact fin2 _ q
                | [x, y], hm, hd, q =>
                  have hx1 := hm x (by simp)
                  have hy1 := hm y (by simp)
                  have dd := dep_tup (xs := [.str "repeat", x, y]) (x := y) (by simp)
                  have d1 : decide (((([x, y] : List D).length + 1 : Nat) : Int) = 3) = true := rfl
                  rw [d1]
                  simp only [Bool.not_true, Bool.false_eq_true, if_false]
                  rw [u_ixTd at1]
                  refine go_int hx1 ?_
                  cases x with
                  | int i =>
                    simp only [isIntB, Bool.not_true, Bool.false_eq_true, if_false]
                    rw [u_ixTd at1]
                    refine go_bl hx1 ?_
                    simp only [isBl, Bool.false_eq_true, if_false]
                    ((try dsimp only); rw [u_seq]; (try simp only [u_asg, u_gN, u_ret, u_retN, u_skip, u_expr, u_ifs, u_c, u_op, u_neg, u_test, u_and, u_or, u_not, u_if, u_nil, u_cons, u_tup, u_lst, u_callP, u_call, u_b, u_chain, u_andV, u_addI, u_subI, u_mulI, u_divI, u_modI, u_powI, u_cmpI, u_eqI, u_eqS, u_eqB, u_abs, u_intI, u_intB, u_newT, u_newF, u_isN, u_notN, wVar, List.set_cons_zero, List.set_cons_succ, List.getElem?_cons_zero, List.getElem?_cons_succ, List.length_cons, List.length_nil, u_lc, u_for, u_r1, u_r2, u_r3, u_num, u_notV, u_yes, u_w0, u_w1, u_dput, u_get2, u_dget, u_prop, u_fld, u_setF, u_make, u_makeS, u_met, u_calO, u_orT, u_tupIt, u_dc, u_maxDd, u_dnew, u_tupi, ix_p0, ix_p1, wSl, woNone, woSome]))
                    refine ⟨by decide, ?_⟩
                    rw [u_ixLd at0]
                    try simp only [u_asg, u_gN, u_ret, u_retN, u_skip, u_expr, u_ifs, u_c, u_op, u_neg, u_test, u_and, u_or, u_not, u_if, u_nil, u_cons, u_tup, u_lst, u_callP, u_call, u_b, u_chain, u_andV, u_addI, u_subI, u_mulI, u_divI, u_modI, u_powI, u_cmpI, u_eqI, u_eqS, u_eqB, u_abs, u_intI, u_intB, u_newT, u_newF, u_isN, u_notN, wVar, List.set_cons_zero, List.set_cons_succ, List.getElem?_cons_zero, List.getElem?_cons_succ, List.length_cons, List.length_nil, u_lc, u_for, u_r1, u_r2, u_r3, u_num, u_notV, u_yes, u_w0, u_w1, u_dput, u_get2, u_dget, u_prop, u_fld, u_setF, u_make, u_makeS, u_met, u_calO, u_orT, u_tupIt, u_dc, u_maxDd, u_dnew, u_tupi, ix_p0, ix_p1, wSl, woNone, woSome]
                    rw [u_ixTd at1]
                    try simp only [u_asg, u_gN, u_ret, u_retN, u_skip, u_expr, u_ifs, u_c, u_op, u_neg, u_test, u_and, u_or, u_not, u_if, u_nil, u_cons, u_tup, u_lst, u_callP, u_call, u_b, u_chain, u_andV, u_addI, u_subI, u_mulI, u_divI, u_modI, u_powI, u_cmpI, u_eqI, u_eqS, u_eqB, u_abs, u_intI, u_intB, u_newT, u_newF, u_isN, u_notN, wVar, List.set_cons_zero, List.set_cons_succ, List.getElem?_cons_zero, List.getElem?_cons_succ, List.length_cons, List.length_nil, u_lc, u_for, u_r1, u_r2, u_r3, u_num, u_notV, u_yes, u_w0, u_w1, u_dput, u_get2, u_dget, u_prop, u_fld, u_setF, u_make, u_makeS, u_met, u_calO, u_orT, u_tupIt, u_dc, u_maxDd, u_dnew, u_tupi, ix_p0, ix_p1, wSl, woNone, woSome]
                    have q : Q (.bl ((decide (0 ≤ i) && decide (i ≤ 300)) && bodyN n y)) h := q
                    by_cases b1 : 0 ≤ i
                    · rw [decide_eq_true b1] at q ⊢
                      simp only [if_true]
                      by_cases b2 : i ≤ 300
                      · rw [decide_eq_true b2] at q ⊢
                        simp only [if_true, wOrV, u_asg, u_gN, u_ret, u_retN, u_skip, u_expr, u_ifs, u_c, u_op, u_neg, u_test, u_and, u_or, u_not, u_if, u_nil, u_cons, u_tup, u_lst, u_callP, u_call, u_b, u_chain, u_andV, u_addI, u_subI, u_mulI, u_divI, u_modI, u_powI, u_cmpI, u_eqI, u_eqS, u_eqB, u_abs, u_intI, u_intB, u_newT, u_newF, u_isN, u_notN, wVar, List.set_cons_zero, List.set_cons_succ, List.getElem?_cons_zero, List.getElem?_cons_succ, List.length_cons, List.length_nil, u_lc, u_for, u_r1, u_r2, u_r3, u_num, u_notV, u_yes, u_w0, u_w1, u_dput, u_get2, u_dget, u_prop, u_fld, u_setF, u_make, u_makeS, u_met, u_calO, u_orT, u_tupIt, u_dc, u_maxDd, u_dnew, u_tupi, ix_p0, ix_p1, wSl, woNone, woSome]
                        have d2 : decide ((3 : Int) = 2) = false := rfl
                        rw [d2]
                        simp only [Bool.false_eq_true, if_false]
                        rw [u_ixTd rfl]
                        exact ⟨trivial, y, rfl, hy1, by omega, fin2 _ q⟩
                      · rw [decide_eq_false b2] at q ⊢
                        exact fin2 _ q
                    · rw [decide_eq_false b1] at q ⊢
                      exact fin2 _ q
                  | bl b =>
                    simp only [isIntB, Bool.not_true, Bool.false_eq_true, if_false]
                    rw [u_ixTd at1]
                    refine go_bl hx1 ?_
                    simp only [isBl, if_true]
                    exact fin2 _ q
                  | _ => exact fin2 _ q
              · rw [act_other c1 c2 c3 c4] at q
                have ep : wParts w = 0 := by unfold wParts; rw [if_neg c2, if_neg c4]
                rw [ep]
                have d1 : decide ((((ps.length + 1 : Nat)) : Int) = 0) = false := decide_eq_false (by omega)
                rw [d1]
                exact fin2 _ q
      | _ => exact fin_of q
end K02
namespace K02
open PySem PySem.Spec L2 C8 DL
theorem same_text {s : Str} {f : Bool → Bool} {h : AH} {Q : KD} (q : Q (.bl (f true)) h) : dEq f (.str s) (.str s) h Q := by
  show Q (.bl (f (decide (s = s)))) h
  rw [decide_eq_true rfl]; exact q
theorem head_write {ps : List D} (h : headL (.str "write" :: ps) = true) : ∃ x, ps = [x] ∧ btw x 1 2000 = true := by
  unfold headL at h
  dsimp only at h
  rw [bare_write, if_neg (by decide), if_pos rfl] at h
  match ps, h with
  | [x], h => exact ⟨x, rfl, h⟩
theorem p_bytes_of : ∀ ds h Q X, S_bytes_of ds h Q X → w_bytes_of (endsD Q X) (startD 1 ds) h := by
  rintro ds h Q X ⟨xs, rfl, hh, q⟩
  show w_bytes_of (endsD Q X) [some (.tup xs)] h
  obtain ⟨w, ps, rfl⟩ := head_str hh
  unfold bytD at q
  dsimp only at q
  unfold w_bytes_of
  ((try dsimp only); rw [u_seq]; (try simp only [u_asg, u_gN, u_ret, u_retN, u_skip, u_expr, u_ifs, u_c, u_op, u_neg, u_test, u_and, u_or, u_not, u_if, u_nil, u_cons, u_tup, u_lst, u_callP, u_call, u_b, u_chain, u_andV, u_addI, u_subI, u_mulI, u_divI, u_modI, u_powI, u_cmpI, u_eqI, u_eqS, u_eqB, u_abs, u_intI, u_intB, u_newT, u_newF, u_isN, u_notN, wVar, List.set_cons_zero, List.set_cons_succ, List.getElem?_cons_zero, List.getElem?_cons_succ, List.length_cons, List.length_nil, u_lc, u_for, u_r1, u_r2, u_r3, u_num, u_notV, u_yes, u_w0, u_w1, u_dput, u_get2, u_dget, u_prop, u_fld, u_setF, u_make, u_makeS, u_met, u_calO, u_orT, u_tupIt, u_dc, u_maxDd, u_dnew, u_tupi, ix_p0, ix_p1, wSl, woNone, woSome]))
  rw [u_ixTd at0]
  try simp only [u_asg, u_gN, u_ret, u_retN, u_skip, u_expr, u_ifs, u_c, u_op, u_neg, u_test, u_and, u_or, u_not, u_if, u_nil, u_cons, u_tup, u_lst, u_callP, u_call, u_b, u_chain, u_andV, u_addI, u_subI, u_mulI, u_divI, u_modI, u_powI, u_cmpI, u_eqI, u_eqS, u_eqB, u_abs, u_intI, u_intB, u_newT, u_newF, u_isN, u_notN, wVar, List.set_cons_zero, List.set_cons_succ, List.getElem?_cons_zero, List.getElem?_cons_succ, List.length_cons, List.length_nil, u_lc, u_for, u_r1, u_r2, u_r3, u_num, u_notV, u_yes, u_w0, u_w1, u_dput, u_get2, u_dget, u_prop, u_fld, u_setF, u_make, u_makeS, u_met, u_calO, u_orT, u_tupIt, u_dc, u_maxDd, u_dnew, u_tupi, ix_p0, ix_p1, wSl, woNone, woSome]
  by_cases c : w = "write"
  · subst c
    obtain ⟨x, rfl, _⟩ := head_write hh
    rw [if_pos rfl] at q
    rw [if_pos (decide_eq_true rfl), u_ixTd at1]
    exact fin_of q
  · rw [if_neg c] at q
    rw [if_neg (by rw [decide_eq_false c]; decide), u_ixTd at0]
    try simp only [u_asg, u_gN, u_ret, u_retN, u_skip, u_expr, u_ifs, u_c, u_op, u_neg, u_test, u_and, u_or, u_not, u_if, u_nil, u_cons, u_tup, u_lst, u_callP, u_call, u_b, u_chain, u_andV, u_addI, u_subI, u_mulI, u_divI, u_modI, u_powI, u_cmpI, u_eqI, u_eqS, u_eqB, u_abs, u_intI, u_intB, u_newT, u_newF, u_isN, u_notN, wVar, List.set_cons_zero, List.set_cons_succ, List.getElem?_cons_zero, List.getElem?_cons_succ, List.length_cons, List.length_nil, u_lc, u_for, u_r1, u_r2, u_r3, u_num, u_notV, u_yes, u_w0, u_w1, u_dput, u_get2, u_dget, u_prop, u_fld, u_setF, u_make, u_makeS, u_met, u_calO, u_orT, u_tupIt, u_dc, u_maxDd, u_dnew, u_tupi, ix_p0, ix_p1, wSl, woNone, woSome]
    by_cases c2 : w = "line"
    · rw [if_pos c2] at q
      rw [if_pos (decide_eq_true c2)]
      exact fin_of q
    · rw [if_neg c2] at q
      rw [if_neg (by rw [decide_eq_false c2]; decide)]
      exact fin_of q
theorem len_bytes_of : ∀ ds h Q X, S_bytes_of ds h Q X → ds.length = 1 := fun _ _ _ _ ⟨_, e, _⟩ => by rw [e]; rfl
theorem mo_bytes_of : MoF S_bytes_of := fun _ _ _ _ _ _ hq _ ⟨a, e, o, q⟩ => ⟨a, e, o, hq _ _ q⟩
/-! right -/
theorem showall : ∀ {xs : List D}, (∀ x ∈ xs, (pq x).showable = true) → PyData.showableAll (pqs xs) = true
  | [], _ => by rw [pqs, PyData.showableAll]
  | x :: xs, h => by rw [pqs, PyData.showableAll, h x (List.mem_cons_self ..), showall fun y hy => h y (List.mem_cons_of_mem _ hy)]; rfl
theorem depall {k : Nat} : ∀ {xs : List D}, (∀ x ∈ xs, (pq x).depth ≤ k) → PyData.depthAll (pqs xs) ≤ k
  | [], _ => by rw [pqs, PyData.depthAll]; exact Nat.zero_le _
  | x :: xs, h => by rw [pqs, PyData.depthAll]; exact Nat.max_le.mpr ⟨h x (List.mem_cons_self ..), depall fun y hy => h y (List.mem_cons_of_mem _ hy)⟩
theorem dqs_ok : ∀ {xs : List D}, (∀ x ∈ xs, dq x = true) → dqs xs = true
  | [], _ => by rw [dqs]
  | x :: xs, h => by rw [dqs, h x (List.mem_cons_self ..), dqs_ok fun y hy => h y (List.mem_cons_of_mem _ hy)]; rfl
theorem pqs_map : ∀ xs : List D, pqs xs = xs.map pq
  | [] => by rw [pqs]; rfl
  | x :: xs => by rw [pqs, pqs_map xs]; rfl
theorem shown_sum : ∀ xs : List D, (∀ x ∈ xs, (pq x).shown.length ≤ wt x) → ((PyData.shownAll (pqs xs)).map fun t => t.length + 2).sum ≤ wts xs
  | [], _ => by rw [pqs, PyData.shownAll, wts]; exact Nat.le_refl _
  | x :: xs, h => by
    have h1 := h x (List.mem_cons_self ..)
    have h2 := shown_sum xs fun y hy => h y (List.mem_cons_of_mem _ hy)
    rw [pqs, PyData.shownAll, List.map_cons, List.sum_cons, wts]
    omega
/-! things may be shown -/
mutual
theorem rq_of : ∀ {x : D}, th x = true → Rq x (dep x + 1) (wt x)
  | .non, _ => ⟨rfl, rfl, by rw [pq, PyData.depth]; exact Nat.zero_le _, by rw [pq, PyData.shown, wt]; decide⟩
  | .bl b, _ => ⟨rfl, by rw [pq, PyData.showable], by rw [pq, PyData.depth]; exact Nat.zero_le _, by rw [pq, PyData.shown, wt]; cases b <;> decide⟩
  | .int i, h => by
    rw [th, decide_eq_true_iff] at h
    have r := rp_int (j := 64) (by decide) (by decide) h
    have e : pq (.int i) = pd (.int i) := by rw [pq, pd]
    exact ⟨rfl, by rw [e]; exact r.sh, Nat.le_trans (by rw [e]; exact r.de) (Nat.zero_le _), by rw [e, wt]; exact Nat.le_trans r.le (by decide)⟩
  | .str s, _ => ⟨rfl, by rw [pq, PyData.showable], by rw [pq, PyData.depth]; exact Nat.zero_le _, by rw [pq, wt]; exact Nat.le_refl _⟩
  | .tup xs, h => by
    have hm := th_tup h
    have r := rqs_of (xs := xs) hm.2
    refine ⟨dqs_ok fun x hx => (r x hx).da, ?_, ?_, ?_⟩
    · rw [pq, PyData.showable]; exact showall fun x hx => (r x hx).sh
    · rw [pq, PyData.depth, dep]
      have := depall (xs := xs) (k := deps xs) fun x hx => Nat.le_trans (r x hx).de (deps_mem hx)
      omega
    · rw [pq, PyData.shown, wt]
      have := tup_len (PyData.shownAll (pqs xs))
      have := shown_sum xs fun x hx => (r x hx).le
      omega
  | .lst xs, h => by
    have hm : xs.length ≤ 1000 ∧ ∀ x ∈ xs, th x = true := by
      rw [th, Bool.and_eq_true, decide_eq_true_iff] at h
      exact ⟨h.1, ths_mem h.2⟩
    have r := rqs_of (xs := xs) hm.2
    refine ⟨dqs_ok fun x hx => (r x hx).da, ?_, ?_, ?_⟩
    · rw [pq, PyData.showable]; exact showall fun x hx => (r x hx).sh
    · rw [pq, PyData.depth, dep]
      have := depall (xs := xs) (k := deps xs) fun x hx => Nat.le_trans (r x hx).de (deps_mem hx)
      omega
    · rw [pq, PyData.shown, wt]
      have := lst_len (PyData.shownAll (pqs xs))
      have := shown_sum xs fun x hx => (r x hx).le
      omega
  | .dK kvs, h => by
    rw [th] at h
    refine ⟨by rw [dq]; exact h, by rw [pq]; rfl, by rw [pq, dep]; decide +kernel, by rw [pq, wt]; decide +kernel⟩
  | .tpl _, h => by rw [th] at h; cases h
  | .ref _, h => by rw [th] at h; cases h
  | .ty _, h => by rw [th] at h; cases h
  | .lk _, h => by rw [th] at h; cases h
  | .ob _ _, h => by rw [th] at h; cases h
  | .dT _, h => by rw [th] at h; cases h
theorem rqs_of : ∀ {xs : List D}, (∀ x ∈ xs, th x = true) → ∀ x ∈ xs, Rq x (dep x + 1) (wt x)
  | [], _, _, h => by cases h
  | y :: ys, hm, x, h => by
    rcases List.mem_cons.mp h with e | h
    · rw [e]; exact rq_of (hm y (List.mem_cons_self ..))
    · exact rqs_of (fun z hz => hm z (List.mem_cons_of_mem _ hz)) x h
end
theorem go_rq {x : D} {k n : Nat} {h : AH} {Q : KD} (r : Rq x k n) (hk : k ≤ 60) (hn : n ≤ 10000000) (q : Q (.str (pq x).shown) h) : dReprQ [x] h Q :=
  ⟨x, rfl, r.da, r.sh, Nat.le_trans r.de hk, Nat.le_trans r.le (Nat.le_trans hn (by decide)), q⟩
theorem rq_four (a b : Bool) : Rq (.lst [.bl a, .bl b, .bl a, .bl b]) 2 100 := by
  cases a <;> cases b <;> exact ⟨by decide +kernel, by decide +kernel, by decide +kernel, by decide +kernel⟩
theorem p__law_right : ∀ ds h Q X, S__law_right ds h Q X → w__law_right (endsD Q X) (startD 4 ds) h := by
  rintro ds h Q X ⟨x, rfl, hx, hd, hw, q⟩
  have r := rq_of hx
  have hk : dep x + 1 ≤ 60 := by omega
  have hn : wt x ≤ 10000000 := by omega
  show w__law_right (endsD Q X) [some x, none, none, none] h
  unfold w__law_right
  ((try dsimp only); rw [u_seq]; (try simp only [u_asg, u_gN, u_ret, u_retN, u_skip, u_expr, u_ifs, u_c, u_op, u_neg, u_test, u_and, u_or, u_not, u_if, u_nil, u_cons, u_tup, u_lst, u_callP, u_call, u_b, u_chain, u_andV, u_addI, u_subI, u_mulI, u_divI, u_modI, u_powI, u_cmpI, u_eqI, u_eqS, u_eqB, u_abs, u_intI, u_intB, u_newT, u_newF, u_isN, u_notN, wVar, List.set_cons_zero, List.set_cons_succ, List.getElem?_cons_zero, List.getElem?_cons_succ, List.length_cons, List.length_nil, u_lc, u_for, u_r1, u_r2, u_r3, u_num, u_notV, u_yes, u_w0, u_w1, u_dput, u_get2, u_dget, u_prop, u_fld, u_setF, u_make, u_makeS, u_met, u_calO, u_orT, u_tupIt, u_dc, u_maxDd, u_dnew, u_tupi, ix_p0, ix_p1, wSl, woNone, woSome]))
  refine go_rq r hk hn ?_
  ((try dsimp only); rw [u_seq]; (try simp only [u_asg, u_gN, u_ret, u_retN, u_skip, u_expr, u_ifs, u_c, u_op, u_neg, u_test, u_and, u_or, u_not, u_if, u_nil, u_cons, u_tup, u_lst, u_callP, u_call, u_b, u_chain, u_andV, u_addI, u_subI, u_mulI, u_divI, u_modI, u_powI, u_cmpI, u_eqI, u_eqS, u_eqB, u_abs, u_intI, u_intB, u_newT, u_newF, u_isN, u_notN, wVar, List.set_cons_zero, List.set_cons_succ, List.getElem?_cons_zero, List.getElem?_cons_succ, List.length_cons, List.length_nil, u_lc, u_for, u_r1, u_r2, u_r3, u_num, u_notV, u_yes, u_w0, u_w1, u_dput, u_get2, u_dget, u_prop, u_fld, u_setF, u_make, u_makeS, u_met, u_calO, u_orT, u_tupIt, u_dc, u_maxDd, u_dnew, u_tupi, ix_p0, ix_p1, wSl, woNone, woSome]))
  refine ⟨trivial, x, rfl, hx, by omega, trivial, x, rfl, hx, by omega, by decide, ?_⟩
  refine ⟨[.bl (actN 20 x), .bl (bodyN 20 x)], rfl, by decide, by decide, (show 4 ≤ sizeLine by decide), ?_⟩
  rw [u_newF]
  refine go_rq (rq_four (actN 20 x) (bodyN 20 x)) (by decide) (by decide) ?_
  ((try dsimp only); rw [u_seq]; (try simp only [u_asg, u_gN, u_ret, u_retN, u_skip, u_expr, u_ifs, u_c, u_op, u_neg, u_test, u_and, u_or, u_not, u_if, u_nil, u_cons, u_tup, u_lst, u_callP, u_call, u_b, u_chain, u_andV, u_addI, u_subI, u_mulI, u_divI, u_modI, u_powI, u_cmpI, u_eqI, u_eqS, u_eqB, u_abs, u_intI, u_intB, u_newT, u_newF, u_isN, u_notN, wVar, List.set_cons_zero, List.set_cons_succ, List.getElem?_cons_zero, List.getElem?_cons_succ, List.length_cons, List.length_nil, u_lc, u_for, u_r1, u_r2, u_r3, u_num, u_notV, u_yes, u_w0, u_w1, u_dput, u_get2, u_dget, u_prop, u_fld, u_setF, u_make, u_makeS, u_met, u_calO, u_orT, u_tupIt, u_dc, u_maxDd, u_dnew, u_tupi, ix_p0, ix_p1, wSl, woNone, woSome]))
  refine ⟨trivial, x, rfl, hx, by omega, trivial, x, rfl, hx, by omega, ?_⟩
  refine ⟨trivial, trivial, x, rfl, hx, by omega, trivial, trivial, x, rfl, hx, by omega, by decide, ?_⟩
  try simp only [u_asg, u_gN, u_ret, u_retN, u_skip, u_expr, u_ifs, u_c, u_op, u_neg, u_test, u_and, u_or, u_not, u_if, u_nil, u_cons, u_tup, u_lst, u_callP, u_call, u_b, u_chain, u_andV, u_addI, u_subI, u_mulI, u_divI, u_modI, u_powI, u_cmpI, u_eqI, u_eqS, u_eqB, u_abs, u_intI, u_intB, u_newT, u_newF, u_isN, u_notN, wVar, List.set_cons_zero, List.set_cons_succ, List.getElem?_cons_zero, List.getElem?_cons_succ, List.length_cons, List.length_nil, u_lc, u_for, u_r1, u_r2, u_r3, u_num, u_notV, u_yes, u_w0, u_w1, u_dput, u_get2, u_dget, u_prop, u_fld, u_setF, u_make, u_makeS, u_met, u_calO, u_orT, u_tupIt, u_dc, u_maxDd, u_dnew, u_tupi, ix_p0, ix_p1, wSl, woNone, woSome]
  refine go_rq (rq_four (actN 20 x) (bodyN 20 x)) (by decide) (by decide) (same_text ?_)
  try simp only [u_asg, u_gN, u_ret, u_retN, u_skip, u_expr, u_ifs, u_c, u_op, u_neg, u_test, u_and, u_or, u_not, u_if, u_nil, u_cons, u_tup, u_lst, u_callP, u_call, u_b, u_chain, u_andV, u_addI, u_subI, u_mulI, u_divI, u_modI, u_powI, u_cmpI, u_eqI, u_eqS, u_eqB, u_abs, u_intI, u_intB, u_newT, u_newF, u_isN, u_notN, wVar, List.set_cons_zero, List.set_cons_succ, List.getElem?_cons_zero, List.getElem?_cons_succ, List.length_cons, List.length_nil, u_lc, u_for, u_r1, u_r2, u_r3, u_num, u_notV, u_yes, u_w0, u_w1, u_dput, u_get2, u_dget, u_prop, u_fld, u_setF, u_make, u_makeS, u_met, u_calO, u_orT, u_tupIt, u_dc, u_maxDd, u_dnew, u_tupi, ix_p0, ix_p1, wSl, woNone, woSome]
  simp only [if_true]
  exact go_rq r hk hn (same_text (fin_of q))
theorem len__law_right : ∀ ds h Q X, S__law_right ds h Q X → ds.length = 1 := fun _ _ _ _ ⟨_, e, _⟩ => by rw [e]; rfl
theorem mo__law_right : MoF S__law_right := fun _ _ _ _ _ _ hq _ ⟨a, e, o1, o2, o3, q⟩ => ⟨a, e, o1, o2, o3, hq _ _ q⟩
/-! odd values -/
def oddL : List D := [.non, .bl true, .int 0, .str "write", .str "line", .tup [], .lst [], .dK [], .tup [.str "write", .int 0], .tup [.str "write", .int 2001], .tup [.str "write", .bl true], .tup [.str "write"]] ++
  [.tup [.str "line", .int 1], .tup [.str "fork"], .tup [.str "fork", .lst []], .tup [.str "fork", .non], .tup [.str "repeat", .int 2], .tup [.str "repeat", .int (-1), .tup []]] ++
  [.tup [.str "repeat", .int 301, .tup []], .tup [.str "repeat", .bl true, .tup []], .tup [.str "repeat", .int 1, .lst [.tup [.str "line"]]], .tup [.str "Line"], .lst [.str "line"]] ++
  [.tup [.str "write", .str "3"], .tup [.str "write", .int 2000], .tup [.str "repeat", .int 300, .tup []], .tup [.tup [.str "line"]], .tup [.str "exit", .tup []], .tup [.str "fork", .tup [], .tup []]]
def okD (x : D) : Bool := th x && decide (dep x ≤ 3) && decide (wt x ≤ 400) && decide (nl x ≤ 3)
theorem odd_ok : oddL.all okD = true := by decide +kernel
theorem okD_is {x : D} (h : okD x = true) : th x = true ∧ dep x ≤ 3 ∧ wt x ≤ 400 ∧ nl x ≤ 3 := by
  unfold okD at h
  simp only [Bool.and_eq_true, decide_eq_true_iff] at h
  exact ⟨h.1.1.1, h.1.1.2, h.1.2, h.2⟩
theorem at_mem {xs : List D} {v : Int} (h0 : 0 ≤ v) (h1 : v < xs.length) : ∃ x ∈ xs, atI xs v = some x := by
  obtain ⟨k, rfl⟩ := Int.eq_ofNat_of_zero_le h0
  have hk : k < xs.length := by omega
  exact ⟨xs[k], List.getElem_mem hk, by rw [atI_nat hk]; exact List.getElem?_eq_getElem hk⟩
theorem p__law_odd : ∀ ds h Q X, S__law_odd ds h Q X → w__law_odd (endsD Q X) (startD 2 ds) h := by
  rintro ds h Q X ⟨n, p, rfl, I, hn, q⟩
  show w__law_odd (endsD Q X) [some (.ref p), none] h
  unfold w__law_odd
  rw [u_seq]
  simp only [u_asg, u_gN, u_ret, u_retN, u_skip, u_expr, u_ifs, u_c, u_op, u_neg, u_test, u_and, u_or, u_not, u_if, u_nil, u_cons, u_tup, u_lst, u_callP, u_call, u_b, u_chain, u_andV, u_addI, u_subI, u_mulI, u_divI, u_modI, u_powI, u_cmpI, u_eqI, u_eqS, u_eqB, u_abs, u_intI, u_intB, u_newT, u_newF, u_isN, u_notN, wVar, List.set_cons_zero, List.set_cons_succ, List.getElem?_cons_zero, List.getElem?_cons_succ, List.length_cons, List.length_nil, u_lc, u_for, u_r1, u_r2, u_r3, u_num, u_notV, u_yes, u_w0, u_w1, u_dput, u_get2, u_dget, u_prop, u_fld, u_setF, u_make, u_makeS, u_met, u_calO, u_orT, u_tupIt, u_dc, u_maxDd, u_dnew, u_tupi, ix_p0, ix_p1, wSl, woNone, woSome, wDnewF]
  repeat (first | refine ⟨by decide, ?_⟩ | rw [u_newF] | refine ⟨_, _, rfl, rfl, by decide, ?_⟩ | (rw [u_gN]; dsimp only [List.set_cons_zero, List.set_cons_succ]) | (rw [u_seq]; simp only [u_asg, u_gN, u_ret, u_retN, u_skip, u_expr, u_ifs, u_c, u_op, u_neg, u_test, u_and, u_or, u_not, u_if, u_nil, u_cons, u_tup, u_lst, u_callP, u_call, u_b, u_chain, u_andV, u_addI, u_subI, u_mulI, u_divI, u_modI, u_powI, u_cmpI, u_eqI, u_eqS, u_eqB, u_abs, u_intI, u_intB, u_newT, u_newF, u_isN, u_notN, wVar, List.set_cons_zero, List.set_cons_succ, List.getElem?_cons_zero, List.getElem?_cons_succ, List.length_cons, List.length_nil, u_lc, u_for, u_r1, u_r2, u_r3, u_num, u_notV, u_yes, u_w0, u_w1, u_dput, u_get2, u_dget, u_prop, u_fld, u_setF, u_make, u_makeS, u_met, u_calO, u_orT, u_tupIt, u_dc, u_maxDd, u_dnew, u_tupi, ix_p0, ix_p1, wSl, woNone, woSome]))
  try simp only [u_asg, u_gN, u_ret, u_retN, u_skip, u_expr, u_ifs, u_c, u_op, u_neg, u_test, u_and, u_or, u_not, u_if, u_nil, u_cons, u_tup, u_lst, u_callP, u_call, u_b, u_chain, u_andV, u_addI, u_subI, u_mulI, u_divI, u_modI, u_powI, u_cmpI, u_eqI, u_eqS, u_eqB, u_abs, u_intI, u_intB, u_newT, u_newF, u_isN, u_notN, wVar, List.set_cons_zero, List.set_cons_succ, List.getElem?_cons_zero, List.getElem?_cons_succ, List.length_cons, List.length_nil, u_lc, u_for, u_r1, u_r2, u_r3, u_num, u_notV, u_yes, u_w0, u_w1, u_dput, u_get2, u_dget, u_prop, u_fld, u_setF, u_make, u_makeS, u_met, u_calO, u_orT, u_tupIt, u_dc, u_maxDd, u_dnew, u_tupi, ix_p0, ix_p1, wSl, woNone, woSome]
  replace I := Inv0.start I
  refine ⟨trivial, draw_go I (by omega) (div_ok (by decide) (by decide)) fun v o a b I _ => ?_⟩
  obtain ⟨x, hx, e⟩ := at_mem (xs := oddL) a b
  obtain ⟨h1, h2, h3, h4⟩ := okD_is (List.all_eq_true.mp odd_ok x hx)
  show dIx (.lst oddL) (.int v) (up h p o) _
  rw [u_ixLd e]
  obtain ⟨o', e', pr⟩ := I.pen
  rw [up_same] at e'
  cases e'
  exact fin_of (q x o h1 h2 h3 h4 pr)
theorem len__law_odd : ∀ ds h Q X, S__law_odd ds h Q X → ds.length = 1 := fun _ _ _ _ ⟨_, _, e, _⟩ => by rw [e]; rfl
theorem mo__law_odd : MoF S__law_odd := fun _ _ _ _ _ _ hq _ ⟨a, b, e, o1, o2, q⟩ => ⟨a, b, e, o1, o2, fun x o h1 h2 h3 h4 h5 => hq _ _ (q x o h1 h2 h3 h4 h5)⟩
end K02
namespace K02
open PySem PySem.Spec L2 C8 DL
def wdL : List (List Str) := [["write", "write", "fork", "flush", "line"], ["write", "fork", "fork", "line"], ["write", "both", "flush"], ["repeat", "write", "flush", "fork"], ["write", "drop", "fork", "quit"], ["write", "fork", "exit", "both"], ["write", "line", "flush", "drop", "fork", "both", "repeat", "exit", "quit", "write", "fork"]]
def wdOk (ws : List Str) : Bool := decide (1 ≤ ws.length) && decide (ws.length ≤ 20) && ws.all fun w => bare w || decide (w = "write") || decide (w = "fork") || decide (w = "repeat")
theorem wd_ok : wdL.all wdOk = true := by decide +kernel
theorem wdOk_is {ws : List Str} (h : wdOk ws = true) : Wds (ws.map D.str) := by
  unfold wdOk at h
  simp only [Bool.and_eq_true, decide_eq_true_iff, List.all_eq_true, Bool.or_eq_true] at h
  obtain ⟨⟨h1, h2⟩, h3⟩ := h
  refine ⟨by rw [List.length_map]; exact h1, by rw [List.length_map]; exact h2, fun x hx => ?_⟩
  obtain ⟨w, hw, rfl⟩ := List.mem_map.mp hx
  refine ⟨w, rfl, ?_⟩
  rcases h3 w hw with ((h | h) | h) | h
  · exact .inl h
  · exact .inr (.inl h)
  · exact .inr (.inr (.inl h))
  · exact .inr (.inr (.inr h))
def wdD : List D := wdL.map fun ws => .lst (ws.map D.str)
theorem p__law_words : ∀ ds h Q X, S__law_words ds h Q X → w__law_words (endsD Q X) (startD 2 ds) h := by
  rintro ds h Q X ⟨n, p, rfl, I, hn, q⟩
  show w__law_words (endsD Q X) [some (.ref p), none] h
  unfold w__law_words
  rw [u_seq]
  simp only [u_asg, u_gN, u_ret, u_retN, u_skip, u_expr, u_ifs, u_c, u_op, u_neg, u_test, u_and, u_or, u_not, u_if, u_nil, u_cons, u_tup, u_lst, u_callP, u_call, u_b, u_chain, u_andV, u_addI, u_subI, u_mulI, u_divI, u_modI, u_powI, u_cmpI, u_eqI, u_eqS, u_eqB, u_abs, u_intI, u_intB, u_newT, u_newF, u_isN, u_notN, wVar, List.set_cons_zero, List.set_cons_succ, List.getElem?_cons_zero, List.getElem?_cons_succ, List.length_cons, List.length_nil, u_lc, u_for, u_r1, u_r2, u_r3, u_num, u_notV, u_yes, u_w0, u_w1, u_dput, u_get2, u_dget, u_prop, u_fld, u_setF, u_make, u_makeS, u_met, u_calO, u_orT, u_tupIt, u_dc, u_maxDd, u_dnew, u_tupi, ix_p0, ix_p1, wSl, woNone, woSome]
  repeat (first | refine ⟨by decide, ?_⟩ | rw [u_newF])
  intro d hd
  replace I := Inv0.start I
  have d0 := I.fresh hd
  ((try dsimp only); rw [u_seq]; (try simp only [u_asg, u_gN, u_ret, u_retN, u_skip, u_expr, u_ifs, u_c, u_op, u_neg, u_test, u_and, u_or, u_not, u_if, u_nil, u_cons, u_tup, u_lst, u_callP, u_call, u_b, u_chain, u_andV, u_addI, u_subI, u_mulI, u_divI, u_modI, u_powI, u_cmpI, u_eqI, u_eqS, u_eqB, u_abs, u_intI, u_intB, u_newT, u_newF, u_isN, u_notN, wVar, List.set_cons_zero, List.set_cons_succ, List.getElem?_cons_zero, List.getElem?_cons_succ, List.length_cons, List.length_nil, u_lc, u_for, u_r1, u_r2, u_r3, u_num, u_notV, u_yes, u_w0, u_w1, u_dput, u_get2, u_dget, u_prop, u_fld, u_setF, u_make, u_makeS, u_met, u_calO, u_orT, u_tupIt, u_dc, u_maxDd, u_dnew, u_tupi, ix_p0, ix_p1, wSl, woNone, woSome]))
  repeat (first | refine ⟨by decide, ?_⟩ | rw [u_newF])
  simp only [wMethT, u_asg, u_gN, u_ret, u_retN, u_skip, u_expr, u_ifs, u_c, u_op, u_neg, u_test, u_and, u_or, u_not, u_if, u_nil, u_cons, u_tup, u_lst, u_callP, u_call, u_b, u_chain, u_andV, u_addI, u_subI, u_mulI, u_divI, u_modI, u_powI, u_cmpI, u_eqI, u_eqS, u_eqB, u_abs, u_intI, u_intB, u_newT, u_newF, u_isN, u_notN, wVar, List.set_cons_zero, List.set_cons_succ, List.getElem?_cons_zero, List.getElem?_cons_succ, List.length_cons, List.length_nil, u_lc, u_for, u_r1, u_r2, u_r3, u_num, u_notV, u_yes, u_w0, u_w1, u_dput, u_get2, u_dget, u_prop, u_fld, u_setF, u_make, u_makeS, u_met, u_calO, u_orT, u_tupIt, u_dc, u_maxDd, u_dnew, u_tupi, ix_p0, ix_p1, wSl, woNone, woSome]
  refine ⟨⟨_, lst_ref up_same⟩, ?_⟩
  repeat (first | refine ⟨by decide, ?_⟩ | rw [u_newF])
  refine ⟨d, _, _, rfl, rfl, up_same, by decide, ?_⟩
  rw [up_up]
  try simp only [u_asg, u_gN, u_ret, u_retN, u_skip, u_expr, u_ifs, u_c, u_op, u_neg, u_test, u_and, u_or, u_not, u_if, u_nil, u_cons, u_tup, u_lst, u_callP, u_call, u_b, u_chain, u_andV, u_addI, u_subI, u_mulI, u_divI, u_modI, u_powI, u_cmpI, u_eqI, u_eqS, u_eqB, u_abs, u_intI, u_intB, u_newT, u_newF, u_isN, u_notN, wVar, List.set_cons_zero, List.set_cons_succ, List.getElem?_cons_zero, List.getElem?_cons_succ, List.length_cons, List.length_nil, u_lc, u_for, u_r1, u_r2, u_r3, u_num, u_notV, u_yes, u_w0, u_w1, u_dput, u_get2, u_dget, u_prop, u_fld, u_setF, u_make, u_makeS, u_met, u_calO, u_orT, u_tupIt, u_dc, u_maxDd, u_dnew, u_tupi, ix_p0, ix_p1, wSl, woNone, woSome]
  have I2 := I.new (o := .lst wdD) hd
  have hd2 : (up h d (.lst wdD)) d = some (.lst wdD) := up_same
  refine ⟨trivial, ?_⟩
  show S_draw [.ref p, .int 7] (up h d (.lst wdD)) _ _
  refine draw_go I2 (by omega) (div_ok (by decide) (by decide)) fun v o a b I3 keep => ?_
  rw [← keep d d0.2] at hd2
  obtain ⟨x, hx, e⟩ := at_mem (xs := wdD) a b
  obtain ⟨ws, hw, rfl⟩ := List.mem_map.mp hx
  rw [u_ixRd hd2 e]
  obtain ⟨o', s1, s2⟩ := I3.sub
  exact fin_sub s2 (q _ o' (wdOk_is (List.all_eq_true.mp wd_ok ws hw)) s1)
theorem len__law_words : ∀ ds h Q X, S__law_words ds h Q X → ds.length = 1 := fun _ _ _ _ ⟨_, _, e, _⟩ => by rw [e]; rfl
theorem mo__law_words : MoF S__law_words := fun _ _ _ _ _ _ hq _ ⟨a, b, e, o1, o2, q⟩ => ⟨a, b, e, o1, o2, fun x o h1 h2 => hq _ _ (q x o h1 h2)⟩
end K02
namespace K02
open PySem PySem.Spec L2 C8 DL
theorem bare_cases {w : Str} (h : bare w = true) : w = "line" ∨ w = "flush" ∨ w = "drop" ∨ w = "both" ∨ w = "exit" ∨ w = "quit" := by
  unfold bare inD at h
  simp only [List.any_cons, List.any_nil, Bool.or_false, Bool.or_eq_true, eqFD, beq_iff_eq] at h
  rcases h with h | h | h | h | h | h
  · exact .inl h.symm
  · exact .inr (.inl h.symm)
  · exact .inr (.inr (.inl h.symm))
  · exact .inr (.inr (.inr (.inl h.symm)))
  · exact .inr (.inr (.inr (.inr (.inl h.symm))))
  · exact .inr (.inr (.inr (.inr (.inr h.symm))))
def IsW (w : Str) : Prop := bare w = true ∨ w = "write" ∨ w = "fork" ∨ w = "repeat"
theorem word_wt {w : Str} (h : IsW w) : wt (.str w) ≤ 8 := by
  rcases h with h | rfl | rfl | rfl
  · rcases bare_cases h with rfl | rfl | rfl | rfl | rfl | rfl <;> rw [wt] <;> decide +kernel
  · rw [wt]; decide +kernel
  · rw [wt]; decide +kernel
  · rw [wt]; decide +kernel
theorem act_mono : ∀ m, (∀ x, actN m x = true → actN (m + 1) x = true) ∧ (∀ x, bodyN m x = true → bodyN (m + 1) x = true)
  | 0 => ⟨fun x h => (by rw [actN] at h; cases h), fun x h => (by rw [bodyN] at h; cases h)⟩
  | m + 1 => by
    obtain ⟨h1, h2⟩ := act_mono m
    refine ⟨fun x h => ?_, fun x h => ?_⟩
    · cases t : isTup x with
      | false => rw [actN_non t] at h; cases h
      | true =>
        obtain ⟨xs, rfl⟩ := tup_of t
        rw [actN_tup, Bool.and_eq_true] at h ⊢
        exact ⟨h.1, h2 _ h.2⟩
    · cases t : isTup x with
      | false => rw [bodyN_non t] at h; cases h
      | true =>
        obtain ⟨xs, rfl⟩ := tup_of t
        rw [bodyN_tup, List.all_eq_true] at h ⊢
        exact fun y hy => h1 y (h y hy)
theorem act_le {m k : Nat} (h : m ≤ k) {x : D} (a : actN m x = true) : actN k x = true := by
  obtain ⟨j, rfl⟩ : ∃ j, k = m + j := ⟨k - m, by omega⟩
  clear h
  induction j with
  | zero => exact a
  | succ j ih => exact (act_mono (m + j)).1 x ih
theorem all_act : ∀ {ys : List D}, (∀ y ∈ ys, ∃ m, actN m y = true) → ∃ m, ∀ y ∈ ys, actN m y = true
  | [], _ => ⟨0, fun y h => by cases h⟩
  | y :: ys, h => by
    obtain ⟨m, hm⟩ := h y (List.mem_cons_self ..)
    obtain ⟨k, hk⟩ := all_act fun z hz => h z (List.mem_cons_of_mem _ hz)
    refine ⟨max m k, fun z hz => ?_⟩
    rcases List.mem_cons.mp hz with rfl | hz
    · exact act_le (Nat.le_max_left ..) hm
    · exact act_le (Nat.le_max_right ..) (hk z hz)
theorem body_of {ys : List D} (h : ∀ y ∈ ys, ∃ m, actN m y = true) : ∃ m, bodyN (m + 1) (.tup ys) = true := by
  obtain ⟨m, hm⟩ := all_act h
  exact ⟨m, by rw [bodyN_tup, List.all_eq_true]; exact hm⟩
/-- an action as it is drawn -/
structure Acn (y : D) (d a : Nat) : Prop where
  th : th y = true
  de : dep y ≤ d
  wt : wt y ≤ a
  act : ∃ m, actN m y = true
  nl : nl y ≤ 20
theorem acn_bare {w : Str} (h : bare w = true) {d a : Nat} (hd : 1 ≤ d) (ha : 20 ≤ a) : Acn (.tup [.str w]) d a := by
  have hw := word_wt (.inl h)
  refine ⟨by simp [K02.th, ths], ?_, ?_, ⟨2, ?_⟩, by simp [K02.nl, nls]⟩
  · simp [dep, deps]; omega
  · simp only [K02.wt, wts] at hw ⊢; omega
  · rw [actN_tup, act_bare h (by decide)]; rfl
theorem acn_write {v : Int} (h1 : 1 ≤ v) (h2 : v ≤ 2000) {d a : Nat} (hd : 1 ≤ d) (ha : 100 ≤ a) : Acn (.tup [.str "write", .int v]) d a := by
  have hw := word_wt (w := "write") (.inr (.inl rfl))
  refine ⟨?_, ?_, ?_, ⟨2, ?_⟩, by simp [K02.nl, nls]⟩
  · have : v.natAbs < 2 ^ 64 := by omega
    simp only [K02.th, ths]
    rw [decide_eq_true this]
    rfl
  · simp [dep, deps]; omega
  · simp only [K02.wt, wts] at hw ⊢; omega
  · rw [actN_tup, act_write (by decide)]
    show (decide (1 ≤ v) && decide (v ≤ 2000)) = true
    rw [decide_eq_true h1, decide_eq_true h2]; rfl
theorem acn_fork {ys : List D} {k l r : Nat} (b : Bdy ys k l r) {d a : Nat} (hd : k + 1 ≤ d) (ha : r + 20 ≤ a) : Acn (.tup [.str "fork", .tup ys]) d a := by
  have hw := word_wt (w := "fork") (.inr (.inr (.inl rfl)))
  have h1 := b.th
  have h2 := b.de
  have h3 := b.wt
  obtain ⟨m, hm⟩ := body_of b.act
  have h4 := b.nl
  refine ⟨?_, ?_, ?_, ⟨m + 2, ?_⟩, by simp only [K02.nl, nls, List.length_cons, List.length_nil] at h4 ⊢; omega⟩
  · rw [K02.th, ths, ths, ths, h1, K02.th]; rfl
  · simp only [dep, deps] at h2 ⊢; omega
  · rw [K02.wt, wts, wts, wts]; omega
  · rw [actN_tup, act_fork]; exact hm
theorem acn_repeat {ys : List D} {k l r : Nat} {v : Int} (h0 : 0 ≤ v) (h9 : v ≤ 300) (b : Bdy ys k l r) {d a : Nat} (hd : k + 1 ≤ d) (ha : r + 90 ≤ a) : Acn (.tup [.str "repeat", .int v, .tup ys]) d a := by
  have hw := word_wt (w := "repeat") (.inr (.inr (.inr rfl)))
  have h1 := b.th
  have h2 := b.de
  have h3 := b.wt
  have hv : v.natAbs < 2 ^ 64 := by omega
  obtain ⟨m, hm⟩ := body_of b.act
  have h4 := b.nl
  refine ⟨?_, ?_, ?_, ⟨m + 2, ?_⟩, by simp only [K02.nl, nls, List.length_cons, List.length_nil] at h4 ⊢; omega⟩
  · rw [K02.th, ths, ths, ths, ths, h1, K02.th, K02.th, decide_eq_true hv]; rfl
  · simp only [dep, deps] at h2 ⊢; omega
  · have e : K02.wt (.int v) = 66 := by rw [K02.wt]
    rw [K02.wt, wts, wts, wts, wts]; omega
  · rw [actN_tup, act_repeat]
    show (decide (0 ≤ v) && decide (v ≤ 300) && bodyN (m + 1) (.tup ys)) = true
    rw [decide_eq_true h0, decide_eq_true h9, hm]; rfl
theorem bdy_of {ys : List D} {d a m k r : Nat} (h : ∀ y ∈ ys, Acn y d a) (hl : ys.length ≤ m) (hm : m ≤ 20) (hk : d + 1 ≤ k) (hr : 3 + m * (a + 2) ≤ r) : Bdy ys k m r := by
  refine ⟨hl, ?_, ?_, fun y hy => (h y hy).act, ?_, ?_⟩
  · rw [K02.th, Bool.and_eq_true, decide_eq_true_iff]
    refine ⟨by omega, ?_⟩
    clear hl hr
    induction ys with
    | nil => rw [ths]
    | cons y ys ih => rw [ths, (h y (List.mem_cons_self ..)).th, ih fun z hz => h z (List.mem_cons_of_mem _ hz)]; rfl
  · rw [dep]
    clear hl hr
    induction ys with
    | nil => rw [deps]; exact Nat.zero_le _
    | cons y ys ih =>
      rw [deps]
      have := (h y (List.mem_cons_self ..)).de
      have := ih fun z hz => h z (List.mem_cons_of_mem _ hz)
      omega
  · have : wts ys ≤ ys.length * (a + 2) := by
      clear hl hr
      induction ys with
      | nil => rw [wts]; exact Nat.zero_le _
      | cons y ys ih =>
        rw [wts, List.length_cons, Nat.add_mul, Nat.one_mul]
        have := (h y (List.mem_cons_self ..)).wt
        have := ih fun z hz => h z (List.mem_cons_of_mem _ hz)
        omega
    rw [K02.wt]
    have := Nat.mul_le_mul_right (a + 2) hl
    omega
  · rw [K02.nl]
    refine Nat.max_le.mpr ⟨by omega, ?_⟩
    clear hl hr
    induction ys with
    | nil => rw [nls]; exact Nat.zero_le _
    | cons y ys ih =>
      rw [nls]
      have := (h y (List.mem_cons_self ..)).nl
      have := ih fun z hz => h z (List.mem_cons_of_mem _ hz)
      omega
theorem bdy_line : Bdy [.tup [.str "line"]] 2 1 100 := bdy_of (d := 1) (a := 20) (fun y hy => by
  have : y = .tup [.str "line"] := by simpa using hy
  rw [this]
  exact acn_bare (by decide +kernel) (by decide) (by decide)) (by simp) (by decide) (by decide) (by decide)
theorem bdy_nil : Bdy [] 0 0 3 := ⟨by simp, th_nil, by rw [dep_nil]; exact Nat.le_refl _, fun y h => (by cases h), by rw [K02.wt, wts]; exact Nat.le_refl _, by simp [K02.nl, nls]⟩
end K02
namespace K02
open PySem PySem.Spec L2 C8 DL
theorem no__law_deeds : ∀ ds h Q X, ¬ S__law_deeds 0 ds h Q X := fun _ _ _ _ ⟨_, _, _, _, _, _, _, _, _, _, _, z, _⟩ => by omega
theorem len__law_deeds (n : Nat) : ∀ ds h Q X, S__law_deeds n ds h Q X → ds.length = 4 := fun _ _ _ _ ⟨_, _, _, _, _, e, _⟩ => by rw [e]; rfl
theorem mo__law_deeds (n : Nat) : MoF (S__law_deeds n) := fun _ _ _ _ _ _ hq _ ⟨a, b, c, d, m, e, o1, o2, o3, o4, o5, o6, q⟩ => ⟨a, b, c, d, m, e, o1, o2, o3, o4, o5, o6, fun ys o h1 h2 => hq _ _ (q ys o h1 h2)⟩
def aN (d : Nat) : Nat := if d = 0 then 150 else if d = 1 then 1100 else 16100
theorem aN_ge (d : Nat) : 150 ≤ aN d := by unfold aN; split <;> (try split) <;> omega
def iN (d : Nat) : Int := if d = 0 then 5 else if d = 1 then 36 else 206
theorem p__law_deeds (n : Nat) : ∀ ds h Q X, S__law_deeds (n + 1) ds h Q X → w__law_deeds n (endsD Q X) (startD 8 ds) h := by
  rintro ds h Q X ⟨c, p, deep, ws, most, rfl, I, hn, hw, hm, hd, hk, q⟩
  show w__law_deeds n (endsD Q X) [some (.ref p), some (.int (deep : Nat)), some (.lst ws), some (.int (most : Nat)), none, none, none, none] h
  have big := big_size
  have an := aN_ge deep
  have i5 : 5 ≤ iN deep ∧ iN deep ≤ 206 := by unfold iN; split <;> (try split) <;> omega
  replace I := Inv0.start I
  unfold w__law_deeds
  ((try dsimp only); rw [u_seq]; (try simp only [u_asg, u_gN, u_ret, u_retN, u_skip, u_expr, u_ifs, u_c, u_op, u_neg, u_test, u_and, u_or, u_not, u_if, u_nil, u_cons, u_tup, u_lst, u_callP, u_call, u_b, u_chain, u_andV, u_addI, u_subI, u_mulI, u_divI, u_modI, u_powI, u_cmpI, u_eqI, u_eqS, u_eqB, u_abs, u_intI, u_intB, u_newT, u_newF, u_isN, u_notN, wVar, List.set_cons_zero, List.set_cons_succ, List.getElem?_cons_zero, List.getElem?_cons_succ, List.length_cons, List.length_nil, u_lc, u_for, u_r1, u_r2, u_r3, u_num, u_notV, u_yes, u_w0, u_w1, u_dput, u_get2, u_dget, u_prop, u_fld, u_setF, u_make, u_makeS, u_met, u_calO, u_orT, u_tupIt, u_dc, u_maxDd, u_dnew, u_tupi, ix_p0, ix_p1, wSl, woNone, woSome]))
  refine ⟨Nat.zero_le _, fun f hf => ?_⟩
  have f0 := I.fresh hf
  replace I := I.new (o := .lst []) hf
  have hf1 : (up h f (.lst [])) f = some (.lst []) := up_same
  generalize up h f (.lst []) = g0 at I hf1 ⊢
  ((try dsimp only); rw [u_seq]; (try simp only [u_asg, u_gN, u_ret, u_retN, u_skip, u_expr, u_ifs, u_c, u_op, u_neg, u_test, u_and, u_or, u_not, u_if, u_nil, u_cons, u_tup, u_lst, u_callP, u_call, u_b, u_chain, u_andV, u_addI, u_subI, u_mulI, u_divI, u_modI, u_powI, u_cmpI, u_eqI, u_eqS, u_eqB, u_abs, u_intI, u_intB, u_newT, u_newF, u_isN, u_notN, wVar, List.set_cons_zero, List.set_cons_succ, List.getElem?_cons_zero, List.getElem?_cons_succ, List.length_cons, List.length_nil, u_lc, u_for, u_r1, u_r2, u_r3, u_num, u_notV, u_yes, u_w0, u_w1, u_dput, u_get2, u_dget, u_prop, u_fld, u_setF, u_make, u_makeS, u_met, u_calO, u_orT, u_tupIt, u_dc, u_maxDd, u_dnew, u_tupi, ix_p0, ix_p1, wSl, woNone, woSome]))
  refine ⟨trivial, draw_go I (by omega) (div_ok (by omega) (by omega)) fun many o a b I keep => ?_⟩
  rw [← keep f f0.2] at hf1
  generalize up _ p o = g1 at I hf1 ⊢
  try simp only [u_asg, u_gN, u_ret, u_retN, u_skip, u_expr, u_ifs, u_c, u_op, u_neg, u_test, u_and, u_or, u_not, u_if, u_nil, u_cons, u_tup, u_lst, u_callP, u_call, u_b, u_chain, u_andV, u_addI, u_subI, u_mulI, u_divI, u_modI, u_powI, u_cmpI, u_eqI, u_eqS, u_eqB, u_abs, u_intI, u_intB, u_newT, u_newF, u_isN, u_notN, wVar, List.set_cons_zero, List.set_cons_succ, List.getElem?_cons_zero, List.getElem?_cons_succ, List.length_cons, List.length_nil, u_lc, u_for, u_r1, u_r2, u_r3, u_num, u_notV, u_yes, u_w0, u_w1, u_dput, u_get2, u_dget, u_prop, u_fld, u_setF, u_make, u_makeS, u_met, u_calO, u_orT, u_tupIt, u_dc, u_maxDd, u_dnew, u_tupi, ix_p0, ix_p1, wSl, woNone, woSome]
  obtain ⟨mn, rfl⟩ := Int.eq_ofNat_of_zero_le a
  refine ⟨by omega, by omega, ?_⟩
  rw [Int.toNat_natCast]
  refine loop_go (fun i ρ h' => ∃ a5 a6 a7 ys, ρ = [some (.ref p), some (.int (deep : Nat)), some (.lst ws), some (.int (most : Nat)), some (.ref f), a5, a6, a7] ∧ Inv0 h p (c + 1 + i * iN deep) h' ∧ h' f = some (.lst ys) ∧ ys.length ≤ i ∧ ∀ y ∈ ys, Acn y (2 * deep + 3) (aN deep)) ⟨_, _, _, [], rfl, by simpa using I, hf1, Nat.le_refl _, fun y h => by cases h⟩ (fun _ _ _ _ => trivial) ?_ ?_
  · rintro i x _ g K hi ⟨a5, a6, a7, ys, rfl, I, hf1, ly, hy⟩ k
    obtain ⟨rfl, li⟩ := intsD_get hi
    have i0 : 0 ≤ (i : Int) * iN deep := Int.mul_nonneg (by omega) (by omega)
    have i1 : (i : Int) * iN deep ≤ 5 * 206 := Int.mul_le_mul (by omega) i5.2 (by omega) (by omega)
    have i2 : ((i + 1 : Nat) : Int) * iN deep = i * iN deep + iN deep := by rw [Int.natCast_add, Int.add_mul]; simp
    rw [i2] at k
    generalize (i : Int) * iN deep = ii at I i0 i1 k
    have done : ∀ (z : D) (g : AH) (e : Int) (a5 a6 a7 : Option D), Inv0 h p (c + 1 + ii + e) g → e ≤ iN deep → Acn z (2 * deep + 3) (aN deep) → K [some (.ref p), some (.int (deep : Nat)), some (.lst ws), some (.int (most : Nat)), some (.ref f), a5, a6, a7] (up g f (.lst (ys ++ [z]))) := fun z g e a5 a6 a7 I le az =>
      k _ _ ⟨_, _, _, _, rfl, (I.mono (by omega)).put f0.1, up_same, by simp; omega, fun y hy2 => by
        rcases List.mem_append.mp hy2 with h1 | h1
        · exact hy y h1
        · have : y = z := by simpa using h1
          rw [this]; exact az⟩
    clear k
    rw [u_gN]
    dsimp only [List.set_cons_zero, List.set_cons_succ]
    ((try dsimp only); rw [u_seq]; (try simp only [u_asg, u_gN, u_ret, u_retN, u_skip, u_expr, u_ifs, u_c, u_op, u_neg, u_test, u_and, u_or, u_not, u_if, u_nil, u_cons, u_tup, u_lst, u_callP, u_call, u_b, u_chain, u_andV, u_addI, u_subI, u_mulI, u_divI, u_modI, u_powI, u_cmpI, u_eqI, u_eqS, u_eqB, u_abs, u_intI, u_intB, u_newT, u_newF, u_isN, u_notN, wVar, List.set_cons_zero, List.set_cons_succ, List.getElem?_cons_zero, List.getElem?_cons_succ, List.length_cons, List.length_nil, u_lc, u_for, u_r1, u_r2, u_r3, u_num, u_notV, u_yes, u_w0, u_w1, u_dput, u_get2, u_dget, u_prop, u_fld, u_setF, u_make, u_makeS, u_met, u_calO, u_orT, u_tupIt, u_dc, u_maxDd, u_dnew, u_tupi, ix_p0, ix_p1, wSl, woNone, woSome]))
    refine len_of rfl ?_
    refine ⟨trivial, draw_go I (by omega) (div_ok (by have := hw.1; omega) (by have := hw.2.1; omega)) fun v o a' b' I keep => ?_⟩
    rw [← keep f f0.2] at hf1
    generalize up _ p o = g1 at I hf1 ⊢
    obtain ⟨x, hx, ex⟩ := at_mem a' b'
    obtain ⟨w, rfl, iw⟩ := hw.2.2 x hx
    rw [u_ixLd ex]
    try simp only [u_asg, u_gN, u_ret, u_retN, u_skip, u_expr, u_ifs, u_c, u_op, u_neg, u_test, u_and, u_or, u_not, u_if, u_nil, u_cons, u_tup, u_lst, u_callP, u_call, u_b, u_chain, u_andV, u_addI, u_subI, u_mulI, u_divI, u_modI, u_powI, u_cmpI, u_eqI, u_eqS, u_eqB, u_abs, u_intI, u_intB, u_newT, u_newF, u_isN, u_notN, wVar, List.set_cons_zero, List.set_cons_succ, List.getElem?_cons_zero, List.getElem?_cons_succ, List.length_cons, List.length_nil, u_lc, u_for, u_r1, u_r2, u_r3, u_num, u_notV, u_yes, u_w0, u_w1, u_dput, u_get2, u_dget, u_prop, u_fld, u_setF, u_make, u_makeS, u_met, u_calO, u_orT, u_tupIt, u_dc, u_maxDd, u_dnew, u_tupi, ix_p0, ix_p1, wSl, woNone, woSome]
    by_cases c1 : w = "write"
    · subst c1
      rw [if_pos (decide_eq_true rfl)]
      simp only [wMethT, u_asg, u_gN, u_ret, u_retN, u_skip, u_expr, u_ifs, u_c, u_op, u_neg, u_test, u_and, u_or, u_not, u_if, u_nil, u_cons, u_tup, u_lst, u_callP, u_call, u_b, u_chain, u_andV, u_addI, u_subI, u_mulI, u_divI, u_modI, u_powI, u_cmpI, u_eqI, u_eqS, u_eqB, u_abs, u_intI, u_intB, u_newT, u_newF, u_isN, u_notN, wVar, List.set_cons_zero, List.set_cons_succ, List.getElem?_cons_zero, List.getElem?_cons_succ, List.length_cons, List.length_nil, u_lc, u_for, u_r1, u_r2, u_r3, u_num, u_notV, u_yes, u_w0, u_w1, u_dput, u_get2, u_dget, u_prop, u_fld, u_setF, u_make, u_makeS, u_met, u_calO, u_orT, u_tupIt, u_dc, u_maxDd, u_dnew, u_tupi, ix_p0, ix_p1, wSl, woNone, woSome]
      refine ⟨⟨_, lst_ref hf1⟩, ?_⟩
      refine ⟨trivial, draw_go I (by omega) (div_ok (by decide) (by decide)) fun v1 o a1 b1 I keep => ?_⟩
      rw [← keep f f0.2] at hf1
      generalize up _ p o = g1 at I hf1 ⊢
      try simp only [u_asg, u_gN, u_ret, u_retN, u_skip, u_expr, u_ifs, u_c, u_op, u_neg, u_test, u_and, u_or, u_not, u_if, u_nil, u_cons, u_tup, u_lst, u_callP, u_call, u_b, u_chain, u_andV, u_addI, u_subI, u_mulI, u_divI, u_modI, u_powI, u_cmpI, u_eqI, u_eqS, u_eqB, u_abs, u_intI, u_intB, u_newT, u_newF, u_isN, u_notN, wVar, List.set_cons_zero, List.set_cons_succ, List.getElem?_cons_zero, List.getElem?_cons_succ, List.length_cons, List.length_nil, u_lc, u_for, u_r1, u_r2, u_r3, u_num, u_notV, u_yes, u_w0, u_w1, u_dput, u_get2, u_dget, u_prop, u_fld, u_setF, u_make, u_makeS, u_met, u_calO, u_orT, u_tupIt, u_dc, u_maxDd, u_dnew, u_tupi, ix_p0, ix_p1, wSl, woNone, woSome]
      refine ⟨by decide, trivial, draw_go I (by omega) (div_ok (by decide) (by decide)) fun v2 o a2 b2 I keep => ?_⟩
      rw [← keep f f0.2] at hf1
      generalize up _ p o = g1 at I hf1 ⊢
      refine at_some (es := [1, 2, 3, 4, 6, 1 + v1]) a2 (by simpa using b2) fun u hu => ?_
      have hu : 1 ≤ u ∧ u ≤ 12 := by
        have : u = 1 ∨ u = 2 ∨ u = 3 ∨ u = 4 ∨ u = 6 ∨ u = 1 + v1 := by simpa using hu
        omega
      refine ⟨by decide, f, ys, _, rfl, rfl, hf1, by omega, ?_⟩
      exact done _ _ 3 _ _ _ (I.mono (by omega)) (by omega) (acn_write hu.1 (by omega) (by omega) (by omega))
    · rw [if_neg (by rw [decide_eq_false c1]; decide)]
      try simp only [u_asg, u_gN, u_ret, u_retN, u_skip, u_expr, u_ifs, u_c, u_op, u_neg, u_test, u_and, u_or, u_not, u_if, u_nil, u_cons, u_tup, u_lst, u_callP, u_call, u_b, u_chain, u_andV, u_addI, u_subI, u_mulI, u_divI, u_modI, u_powI, u_cmpI, u_eqI, u_eqS, u_eqB, u_abs, u_intI, u_intB, u_newT, u_newF, u_isN, u_notN, wVar, List.set_cons_zero, List.set_cons_succ, List.getElem?_cons_zero, List.getElem?_cons_succ, List.length_cons, List.length_nil, u_lc, u_for, u_r1, u_r2, u_r3, u_num, u_notV, u_yes, u_w0, u_w1, u_dput, u_get2, u_dget, u_prop, u_fld, u_setF, u_make, u_makeS, u_met, u_calO, u_orT, u_tupIt, u_dc, u_maxDd, u_dnew, u_tupi, ix_p0, ix_p1, wSl, woNone, woSome]
      by_cases c2 : w = "fork"
      · subst c2
        rw [if_pos (decide_eq_true rfl)]
        simp only [wMethT, u_asg, u_gN, u_ret, u_retN, u_skip, u_expr, u_ifs, u_c, u_op, u_neg, u_test, u_and, u_or, u_not, u_if, u_nil, u_cons, u_tup, u_lst, u_callP, u_call, u_b, u_chain, u_andV, u_addI, u_subI, u_mulI, u_divI, u_modI, u_powI, u_cmpI, u_eqI, u_eqS, u_eqB, u_abs, u_intI, u_intB, u_newT, u_newF, u_isN, u_notN, wVar, List.set_cons_zero, List.set_cons_succ, List.getElem?_cons_zero, List.getElem?_cons_succ, List.length_cons, List.length_nil, u_lc, u_for, u_r1, u_r2, u_r3, u_num, u_notV, u_yes, u_w0, u_w1, u_dput, u_get2, u_dget, u_prop, u_fld, u_setF, u_make, u_makeS, u_met, u_calO, u_orT, u_tupIt, u_dc, u_maxDd, u_dnew, u_tupi, ix_p0, ix_p1, wSl, woNone, woSome]
        refine ⟨⟨_, lst_ref hf1⟩, ?_⟩
        by_cases c3 : (0 : Int) < (deep : Nat)
        · rw [if_pos (decide_eq_true c3)]
          obtain ⟨d, rfl⟩ : ∃ d, deep = d + 1 := ⟨deep - 1, by omega⟩
          refine ⟨trivial, c + 1 + ii + 1, p, d, ws, 2, ?_, I.pen, by omega, hw, by decide, by omega, by omega, fun zs o bz pz => ?_⟩
          · rw [show (((d + 1 : Nat) : Int) - 1) = (d : Nat) by omega]; rfl
          replace I := I.draw pz
          have hf2 : (up g1 p o) f = some (.lst ys) := by rw [up_ne f0.2]; exact hf1
          generalize up g1 p o = g1 at I hf2 ⊢
          refine ⟨by decide, f, ys, _, rfl, rfl, hf2, by omega, ?_⟩
          refine done _ _ (1 + pN d) _ _ _ (I.mono (by omega)) ?_ (acn_fork bz (by omega) ?_)
          · have : d = 0 ∨ d = 1 := by omega
            rcases this with rfl | rfl <;> decide
          · have : d = 0 ∨ d = 1 := by omega
            rcases this with rfl | rfl <;> decide
        · rw [if_neg (by rw [decide_eq_false c3]; decide)]
          refine ⟨Nat.zero_le _, by decide, f, ys, _, rfl, rfl, hf1, by omega, ?_⟩
          exact done _ _ 1 _ _ _ (I.mono (by omega)) (by omega) (acn_fork bdy_nil (by omega) (by omega))
      · rw [if_neg (by rw [decide_eq_false c2]; decide)]
        try simp only [u_asg, u_gN, u_ret, u_retN, u_skip, u_expr, u_ifs, u_c, u_op, u_neg, u_test, u_and, u_or, u_not, u_if, u_nil, u_cons, u_tup, u_lst, u_callP, u_call, u_b, u_chain, u_andV, u_addI, u_subI, u_mulI, u_divI, u_modI, u_powI, u_cmpI, u_eqI, u_eqS, u_eqB, u_abs, u_intI, u_intB, u_newT, u_newF, u_isN, u_notN, wVar, List.set_cons_zero, List.set_cons_succ, List.getElem?_cons_zero, List.getElem?_cons_succ, List.length_cons, List.length_nil, u_lc, u_for, u_r1, u_r2, u_r3, u_num, u_notV, u_yes, u_w0, u_w1, u_dput, u_get2, u_dget, u_prop, u_fld, u_setF, u_make, u_makeS, u_met, u_calO, u_orT, u_tupIt, u_dc, u_maxDd, u_dnew, u_tupi, ix_p0, ix_p1, wSl, woNone, woSome]
        by_cases c4 : w = "repeat"
        · subst c4
          rw [if_pos (decide_eq_true rfl)]
          try dsimp only
          have rest : ∀ (D0 : EndsD), D0.nx = K → ∀ (zs : List D) (kk rr : Nat) (g1 : AH) (e : Int), Bdy zs kk 3 rr → kk + 1 ≤ 2 * deep + 3 → rr + 90 ≤ aN deep → Inv0 h p (c + 1 + ii + 1 + e) g1 → 0 ≤ e → e + 2 ≤ iN deep → g1 f = some (.lst ys) →
              (wExpr (wMethT isL dAppend (wVar 4) (wCons (wTup (wCons (wVar 6) (wCons (wOp dIx (wLst false (wCons (wC (.int 2)) (wCons (wC (.int 3)) (wCons (wC (.int 0)) (wCons (wC (.int 1)) wNil))))) (wCallP S__law_draw 2 (fun ds _ => ds) (wCons (wVar 0) (wCons (wC (.int 4)) wNil)))) (wCons (wVar 7) wNil)))) wNil))) D0 [some (.ref p), some (.int (deep : Nat)), some (.lst ws), some (.int (most : Nat)), some (.ref f), some (.int (0 + (i : Nat))), some (.str "repeat"), some (.tup zs)] g1 := fun D0 hD zs kk rr g1 e bz l1 l2 I e0 e1 hf1 => by
            simp only [wMethT, u_asg, u_gN, u_ret, u_retN, u_skip, u_expr, u_ifs, u_c, u_op, u_neg, u_test, u_and, u_or, u_not, u_if, u_nil, u_cons, u_tup, u_lst, u_callP, u_call, u_b, u_chain, u_andV, u_addI, u_subI, u_mulI, u_divI, u_modI, u_powI, u_cmpI, u_eqI, u_eqS, u_eqB, u_abs, u_intI, u_intB, u_newT, u_newF, u_isN, u_notN, wVar, List.set_cons_zero, List.set_cons_succ, List.getElem?_cons_zero, List.getElem?_cons_succ, List.length_cons, List.length_nil, u_lc, u_for, u_r1, u_r2, u_r3, u_num, u_notV, u_yes, u_w0, u_w1, u_dput, u_get2, u_dget, u_prop, u_fld, u_setF, u_make, u_makeS, u_met, u_calO, u_orT, u_tupIt, u_dc, u_maxDd, u_dnew, u_tupi, ix_p0, ix_p1, wSl, woNone, woSome]
            refine ⟨⟨_, lst_ref hf1⟩, by decide, trivial, draw_go I (by omega) (div_ok (by decide) (by decide)) fun v2 o a2 b2 I keep => ?_⟩
            rw [← keep f f0.2] at hf1
            generalize up _ p o = g1 at I hf1 ⊢
            refine at_some (es := [2, 3, 0, 1]) a2 (by simpa using b2) fun u hu => ?_
            have hu : 0 ≤ u ∧ u ≤ 3 := by
              have : u = 2 ∨ u = 3 ∨ u = 0 ∨ u = 1 := by simpa using hu
              omega
            refine ⟨by decide, f, ys, _, rfl, rfl, hf1, by omega, ?_⟩
            rw [hD]
            exact done _ _ (e + 2) _ _ _ (I.mono (by omega)) (by omega) (acn_repeat hu.1 (by omega) bz l1 l2)
          refine seq_go (fun ρ h' => ∃ (zs : List D) (kk rr : Nat) (e : Int), ρ = [some (.ref p), some (.int (deep : Nat)), some (.lst ws), some (.int (most : Nat)), some (.ref f), some (.int (0 + (i : Nat))), some (.str "repeat"), some (.tup zs)] ∧ Bdy zs kk 3 rr ∧ kk + 1 ≤ 2 * deep + 3 ∧ rr + 90 ≤ aN deep ∧ Inv0 h p (c + 1 + ii + 1 + e) h' ∧ 0 ≤ e ∧ e + 2 ≤ iN deep ∧ h' f = some (.lst ys)) (fun K9 k9 => ?_) ?_
          · simp only [u_asg, u_gN, u_ret, u_retN, u_skip, u_expr, u_ifs, u_c, u_op, u_neg, u_test, u_and, u_or, u_not, u_if, u_nil, u_cons, u_tup, u_lst, u_callP, u_call, u_b, u_chain, u_andV, u_addI, u_subI, u_mulI, u_divI, u_modI, u_powI, u_cmpI, u_eqI, u_eqS, u_eqB, u_abs, u_intI, u_intB, u_newT, u_newF, u_isN, u_notN, wVar, List.set_cons_zero, List.set_cons_succ, List.getElem?_cons_zero, List.getElem?_cons_succ, List.length_cons, List.length_nil, u_lc, u_for, u_r1, u_r2, u_r3, u_num, u_notV, u_yes, u_w0, u_w1, u_dput, u_get2, u_dget, u_prop, u_fld, u_setF, u_make, u_makeS, u_met, u_calO, u_orT, u_tupIt, u_dc, u_maxDd, u_dnew, u_tupi, ix_p0, ix_p1, wSl, woNone, woSome]
            by_cases c3 : (0 : Int) < (deep : Nat)
            · rw [if_pos (decide_eq_true c3)]
              obtain ⟨d, rfl⟩ : ∃ d, deep = d + 1 := ⟨deep - 1, by omega⟩
              have dd : d = 0 ∨ d = 1 := by omega
              refine ⟨trivial, c + 1 + ii + 1, p, d, ws, 3, ?_, I.pen, by omega, hw, by decide, by omega, by omega, fun zs o bz pz => ?_⟩
              · rw [show (((d + 1 : Nat) : Int) - 1) = (d : Nat) by omega]; rfl
              replace I := I.draw pz
              have hf2 : (up g1 p o) f = some (.lst ys) := by rw [up_ne f0.2]; exact hf1
              generalize up g1 p o = g1 at I hf2 ⊢
              have x1 : bN d + 90 ≤ aN (d + 1) := by rcases dd with rfl | rfl <;> decide
              have x2 : 0 ≤ pN d := by rcases dd with rfl | rfl <;> decide
              have x3 : pN d + 2 ≤ iN (d + 1) := by rcases dd with rfl | rfl <;> decide
              exact k9 _ _ ⟨zs, 2 * d + 4, bN d, pN d, rfl, bz, by omega, x1, I, x2, x3, hf2⟩
            · rw [if_neg (by rw [decide_eq_false c3]; decide)]
              have d0 : deep = 0 := by omega
              have l4 : 60 + 90 ≤ aN deep := by subst d0; decide
              have bl2 : Bdy [.tup [.str "line"]] 2 3 60 := ⟨by simp, bdy_line.th, bdy_line.de, bdy_line.act, by decide +kernel, bdy_line.nl⟩
              exact ⟨by decide, by decide, k9 _ _ ⟨[.tup [.str "line"]], 2, 60, 0, rfl, bl2, by omega, l4, I.mono (by omega), Int.le_refl 0, by omega, hf1⟩⟩
          · rintro _ g9 ⟨zs, kk, rr, e, rfl, bz, l1, l2, I, e0, e1, hf9⟩
            exact rest _ rfl zs kk rr g9 e bz l1 l2 I e0 e1 hf9
        · rw [if_neg (by rw [decide_eq_false c4]; decide)]
          simp only [wMethT, u_asg, u_gN, u_ret, u_retN, u_skip, u_expr, u_ifs, u_c, u_op, u_neg, u_test, u_and, u_or, u_not, u_if, u_nil, u_cons, u_tup, u_lst, u_callP, u_call, u_b, u_chain, u_andV, u_addI, u_subI, u_mulI, u_divI, u_modI, u_powI, u_cmpI, u_eqI, u_eqS, u_eqB, u_abs, u_intI, u_intB, u_newT, u_newF, u_isN, u_notN, wVar, List.set_cons_zero, List.set_cons_succ, List.getElem?_cons_zero, List.getElem?_cons_succ, List.length_cons, List.length_nil, u_lc, u_for, u_r1, u_r2, u_r3, u_num, u_notV, u_yes, u_w0, u_w1, u_dput, u_get2, u_dget, u_prop, u_fld, u_setF, u_make, u_makeS, u_met, u_calO, u_orT, u_tupIt, u_dc, u_maxDd, u_dnew, u_tupi, ix_p0, ix_p1, wSl, woNone, woSome]
          have bw : bare w = true := by
            rcases iw with h | h | h | h
            · exact h
            · exact absurd h c1
            · exact absurd h c2
            · exact absurd h c4
          refine ⟨⟨_, lst_ref hf1⟩, by decide, f, ys, _, rfl, rfl, hf1, by omega, ?_⟩
          exact done _ _ 1 _ _ _ (I.mono (by omega)) (by omega) (acn_bare bw (by omega) (by omega))
  · rintro _ g ⟨a5, a6, a7, ys, rfl, I, hf1, ly, hy⟩
    rw [intsD_len] at I ly
    try simp only [u_asg, u_gN, u_ret, u_retN, u_skip, u_expr, u_ifs, u_c, u_op, u_neg, u_test, u_and, u_or, u_not, u_if, u_nil, u_cons, u_tup, u_lst, u_callP, u_call, u_b, u_chain, u_andV, u_addI, u_subI, u_mulI, u_divI, u_modI, u_powI, u_cmpI, u_eqI, u_eqS, u_eqB, u_abs, u_intI, u_intB, u_newT, u_newF, u_isN, u_notN, wVar, List.set_cons_zero, List.set_cons_succ, List.getElem?_cons_zero, List.getElem?_cons_succ, List.length_cons, List.length_nil, u_lc, u_for, u_r1, u_r2, u_r3, u_num, u_notV, u_yes, u_w0, u_w1, u_dput, u_get2, u_dget, u_prop, u_fld, u_setF, u_make, u_makeS, u_met, u_calO, u_orT, u_tupIt, u_dc, u_maxDd, u_dnew, u_tupi, ix_p0, ix_p1, wSl, woNone, woSome]
    refine ⟨_, _, rfl, seq_ref hf1, ?_⟩
    obtain ⟨o', s1, s2⟩ := I.sub
    have hd3 : deep = 0 ∨ deep = 1 ∨ deep = 2 := by omega
    have b5 : 3 + most * (aN deep + 2) ≤ 3 + 5 * (aN deep + 2) := by have := Nat.mul_le_mul_right (aN deep + 2) hm; omega
    refine fin_sub s2 (q ys o' (bdy_of hy (by omega) (by omega) (by omega) (Nat.le_trans b5 ?_)) (s1.mono ?_))
    · rcases hd3 with rfl | rfl | rfl <;> decide
    · have e1 : (mn : Int) * iN deep ≤ 5 * iN deep := Int.mul_le_mul_of_nonneg_right (by omega) (by omega)
      have e2 : 1 + 5 * iN deep ≤ pN deep := by rcases hd3 with rfl | rfl | rfl <;> decide
      omega
end K02
namespace DL
open PySem PySem.Spec L2 C8
theorem cut_from {α : Type} (xs : List α) (n : Nat) : cutD xs (some (n : Int)) none = xs.drop n := by
  unfold cutD
  have e0 : HT.sIx xs.length xs.length none = xs.length := rfl
  rw [e0, HT.sIx_nat]
  by_cases h : n ≤ xs.length
  · rw [Nat.min_eq_left h]
    exact List.take_of_length_le (by rw [List.length_drop]; exact Nat.le_refl _)
  · rw [Nat.min_eq_right (by omega)]
    simp
    omega
end DL
namespace K02
open PySem PySem.Spec L2 C8 DL
theorem wts_app : ∀ {xs ys : List D}, wts (xs ++ ys) = wts xs + wts ys
  | [], ys => by rw [List.nil_append, wts, Nat.zero_add]
  | x :: xs, ys => by rw [List.cons_append, wts, wts, wts_app]; omega
theorem wts_split {xs : List D} {k : Nat} {y : D} (h : xs[k]? = some y) : wts xs = wts (xs.take k) + (wt y + 2) + wts (xs.drop (k + 1)) := by
  obtain ⟨hk, e⟩ := List.getElem?_eq_some_iff.mp h
  have e2 : xs = xs.take k ++ (y :: xs.drop (k + 1)) := by
    rw [← e, List.getElem_cons_drop, List.take_append_drop]
  have := congrArg wts e2
  rw [wts_app, wts] at this
  omega
theorem wts_take_drop {xs : List D} {j k : Nat} (h : j ≤ k) : wts (xs.take j) + wts (xs.drop k) ≤ wts xs := by
  have e := congrArg wts (List.take_append_drop j xs)
  rw [wts_app] at e
  have e3 : xs.drop k = (xs.drop j).drop (k - j) := by rw [List.drop_drop]; congr 1; omega
  have e2 := congrArg wts (List.take_append_drop (k - j) (xs.drop j))
  rw [wts_app, ← e3] at e2
  omega
theorem ths_all : ∀ {xs : List D}, (∀ x ∈ xs, th x = true) → ths xs = true
  | [], _ => by rw [ths]
  | x :: xs, h => by rw [ths, h x (List.mem_cons_self ..), ths_all fun y hy => h y (List.mem_cons_of_mem _ hy)]; rfl
theorem deps_le {e : Nat} : ∀ {xs : List D}, (∀ x ∈ xs, dep x + 1 ≤ e) → deps xs ≤ e
  | [], _ => by rw [deps]; exact Nat.zero_le _
  | x :: xs, h => by rw [deps]; exact Nat.max_le.mpr ⟨h x (List.mem_cons_self ..), deps_le fun y hy => h y (List.mem_cons_of_mem _ hy)⟩
end K02
namespace K02
open PySem PySem.Spec L2 C8 DL
theorem nls_le {e : Nat} : ∀ {xs : List D}, (∀ x ∈ xs, nl x ≤ e) → nls xs ≤ e
  | [], _ => by rw [nls]; exact Nat.zero_le _
  | x :: xs, h => by rw [nls]; exact Nat.max_le.mpr ⟨h x (List.mem_cons_self ..), nls_le fun y hy => h y (List.mem_cons_of_mem _ hy)⟩
theorem nls_mem : ∀ {xs : List D} {x : D}, x ∈ xs → nl x ≤ nls xs
  | y :: ys, x, h => by
    rw [nls]
    rcases List.mem_cons.mp h with rfl | h
    · exact Nat.le_max_left ..
    · exact Nat.le_trans (nls_mem h) (Nat.le_max_right ..)
theorem nl_len {xs : List D} {l : Nat} (h : nl (.tup xs) ≤ l) : xs.length ≤ l := by rw [nl] at h; omega
theorem nl_mem {xs : List D} {x : D} {l : Nat} (h : nl (.tup xs) ≤ l) (m : x ∈ xs) : nl x ≤ l := by
  rw [nl] at h; have := nls_mem m; omega
theorem splice {xs : List D} {l e : Nat} {z : D} {j k : Nat} (ht : th (.tup xs) = true) (hn : nl (.tup xs) ≤ l) (hd : dep (.tup xs) ≤ e) (hz : th z = true) (dz : dep z + 1 ≤ e) (nz : nl z ≤ l + 1) (hl : l ≤ 900) (hj : j ≤ k) :
    th (.tup (xs.take j ++ [z] ++ xs.drop k)) = true ∧ dep (.tup (xs.take j ++ [z] ++ xs.drop k)) ≤ e ∧ nl (.tup (xs.take j ++ [z] ++ xs.drop k)) ≤ l + 1 := by
  have bl := nl_len hn
  obtain ⟨_, hm⟩ := th_tup ht
  have len : (xs.take j ++ [z] ++ xs.drop k).length ≤ l + 1 := by
    simp only [List.length_append, List.length_take, List.length_drop, List.length_cons, List.length_nil]
    omega
  have mem : ∀ y ∈ xs.take j ++ [z] ++ xs.drop k, y ∈ xs ∨ y = z := fun y hy => by
    rcases List.mem_append.mp hy with hy | hy
    · rcases List.mem_append.mp hy with hy | hy
      · exact .inl (List.mem_of_mem_take hy)
      · exact .inr (by simpa using hy)
    · exact .inl (List.mem_of_mem_drop hy)
  refine ⟨?_, ?_, ?_⟩
  · rw [K02.th, Bool.and_eq_true, decide_eq_true_iff]
    refine ⟨by omega, ths_all fun y hy => ?_⟩
    rcases mem y hy with h | rfl
    · exact hm y h
    · exact hz
  · rw [dep]
    refine deps_le fun y hy => ?_
    rcases mem y hy with h | rfl
    · have := dep_tup h
      omega
    · exact dz
  · rw [nl]
    refine Nat.max_le.mpr ⟨len, nls_le fun y hy => ?_⟩
    rcases mem y hy with h | rfl
    · have := nl_mem hn h
      omega
    · exact nz
theorem act_cases {y : D} {m : Nat} (h : actN m y = true) : ∃ w ps, y = .tup (.str w :: ps) ∧ ((w ≠ "fork" ∧ w ≠ "repeat") ∨ (w = "fork" ∧ ∃ zs, ps = [.tup zs] ∧ ∀ z ∈ zs, ∃ m, actN m z = true) ∨
    (w = "repeat" ∧ ∃ v zs, ps = [v, .tup zs] ∧ ∀ z ∈ zs, ∃ m, actN m z = true)) := by
  have inner : ∀ {m : Nat} {x : D}, bodyN m x = true → ∃ zs, x = .tup zs ∧ ∀ z ∈ zs, ∃ m, actN m z = true := fun {m x} hb => by
    cases m with
    | zero => rw [bodyN] at hb; cases hb
    | succ m =>
      cases t : isTup x with
      | false => rw [bodyN_non t] at hb; cases hb
      | true =>
        obtain ⟨zs, rfl⟩ := tup_of t
        rw [bodyN_tup, List.all_eq_true] at hb
        exact ⟨zs, rfl, fun z hz => ⟨m, hb z hz⟩⟩
  cases m with
  | zero => rw [actN] at h; cases h
  | succ m =>
    cases t : isTup y with
    | false => rw [actN_non t] at h; cases h
    | true =>
      obtain ⟨xs, rfl⟩ := tup_of t
      rw [actN_tup, Bool.and_eq_true] at h
      obtain ⟨w, ps, rfl⟩ := head_str h.1
      refine ⟨w, ps, rfl, ?_⟩
      by_cases c1 : w = "fork"
      · subst c1
        obtain ⟨x, rfl, _⟩ := head_fork h.1
        obtain ⟨zs, e, hz⟩ := inner h.2
        have e2 : innD [.str "fork", x] = x := rfl
        rw [e2] at e
        subst e
        exact .inr (.inl ⟨rfl, zs, rfl, hz⟩)
      · by_cases c2 : w = "repeat"
        · subst c2
          obtain ⟨v, x, rfl, _⟩ := head_repeat h.1
          obtain ⟨zs, e, hz⟩ := inner h.2
          have e2 : innD [.str "repeat", v, x] = x := rfl
          rw [e2] at e
          subst e
          exact .inr (.inr ⟨rfl, v, zs, rfl, hz⟩)
        · exact .inl ⟨c1, c2⟩
theorem no__law_bent : ∀ ds h Q X, ¬ S__law_bent 0 ds h Q X := fun _ _ _ _ ⟨_, _, _, _, _, _, _, _, _, _, _, z, _⟩ => by omega
theorem len__law_bent (n : Nat) : ∀ ds h Q X, S__law_bent n ds h Q X → ds.length = 2 := fun _ _ _ _ ⟨_, _, _, _, _, e, _⟩ => by rw [e]; rfl
theorem mo__law_bent (n : Nat) : MoF (S__law_bent n) := fun _ _ _ _ _ _ hq _ ⟨a, b, c, l, r, e, o1, o2, o3, o4, o5, o6, o7, q⟩ => ⟨a, b, c, l, r, e, o1, o2, o3, o4, o5, o6, o7, fun x ys o h1 h2 h3 h4 h5 h6 => hq _ _ (q x ys o h1 h2 h3 h4 h5 h6)⟩
end K02
namespace K02
open PySem PySem.Spec L2 C8 DL
theorem cut_m1 {α : Type} (xs : List α) (x : α) : cutD (xs ++ [x]) none (some (-1)) = xs := by
  unfold cutD
  have e0 : HT.sIx (xs ++ [x]).length 0 none = 0 := rfl
  have e1 : HT.sIx (xs ++ [x]).length (xs ++ [x]).length (some (-1)) = xs.length := by
    simp [HT.sIx]
    omega
  rw [e0, e1, List.drop_zero, Nat.sub_zero]
  exact List.take_left ..
theorem p__law_bent (n : Nat) : ∀ ds h Q X, S__law_bent (n + 1) ds h Q X → w__law_bent n (endsD Q X) (startD 5 ds) h := by
  rintro ds h Q X ⟨c, p, xs, l, r, rfl, I, hn, b, hl2, hl, hk, hr, q⟩
  show w__law_bent n (endsD Q X) [some (.ref p), some (.tup xs), none, none, none] h
  have bl := nl_len b.nl
  replace I := Inv0.start I
  have fin0 : ∀ x ys g (e : Int), (x = .tup ys ∨ x = .lst ys) → th x = true → dep x ≤ dep (.tup xs) + 4 → wt x ≤ r + 402 → nl x ≤ l + 1 → Inv0 h p (c + e) g → e ≤ 3 * ((n + 1 : Nat) : Int) → fin Q x g := fun x ys g e h1 h2 h3 h4 h5 I le => by
    obtain ⟨o', s1, s2⟩ := I.sub
    exact fin_sub s2 (q x ys o' h1 h2 h3 h4 h5 (s1.mono (by omega)))
  unfold w__law_bent
  ((try dsimp only); rw [u_seq]; (try simp only [u_asg, u_gN, u_ret, u_retN, u_skip, u_expr, u_ifs, u_c, u_op, u_neg, u_test, u_and, u_or, u_not, u_if, u_nil, u_cons, u_tup, u_lst, u_callP, u_call, u_b, u_chain, u_andV, u_addI, u_subI, u_mulI, u_divI, u_modI, u_powI, u_cmpI, u_eqI, u_eqS, u_eqB, u_abs, u_intI, u_intB, u_newT, u_newF, u_isN, u_notN, wVar, List.set_cons_zero, List.set_cons_succ, List.getElem?_cons_zero, List.getElem?_cons_succ, List.length_cons, List.length_nil, u_lc, u_for, u_r1, u_r2, u_r3, u_num, u_notV, u_yes, u_w0, u_w1, u_dput, u_get2, u_dget, u_prop, u_fld, u_setF, u_make, u_makeS, u_met, u_calO, u_orT, u_tupIt, u_dc, u_maxDd, u_dnew, u_tupi, ix_p0, ix_p1, wSl, woNone, woSome]))
  simp only [u_lenT]
  try simp only [u_asg, u_gN, u_ret, u_retN, u_skip, u_expr, u_ifs, u_c, u_op, u_neg, u_test, u_and, u_or, u_not, u_if, u_nil, u_cons, u_tup, u_lst, u_callP, u_call, u_b, u_chain, u_andV, u_addI, u_subI, u_mulI, u_divI, u_modI, u_powI, u_cmpI, u_eqI, u_eqS, u_eqB, u_abs, u_intI, u_intB, u_newT, u_newF, u_isN, u_notN, wVar, List.set_cons_zero, List.set_cons_succ, List.getElem?_cons_zero, List.getElem?_cons_succ, List.length_cons, List.length_nil, u_lc, u_for, u_r1, u_r2, u_r3, u_num, u_notV, u_yes, u_w0, u_w1, u_dput, u_get2, u_dget, u_prop, u_fld, u_setF, u_make, u_makeS, u_met, u_calO, u_orT, u_tupIt, u_dc, u_maxDd, u_dnew, u_tupi, ix_p0, ix_p1, wSl, woNone, woSome]
  refine ⟨trivial, draw_go I (by omega) (div_ok (by omega) (by omega)) fun at_ o a1 b1 I _ => ?_⟩
  generalize up _ p o = g1 at I ⊢
  obtain ⟨j, rfl⟩ := Int.eq_ofNat_of_zero_le a1
  ((try dsimp only); rw [u_seq]; (try simp only [u_asg, u_gN, u_ret, u_retN, u_skip, u_expr, u_ifs, u_c, u_op, u_neg, u_test, u_and, u_or, u_not, u_if, u_nil, u_cons, u_tup, u_lst, u_callP, u_call, u_b, u_chain, u_andV, u_addI, u_subI, u_mulI, u_divI, u_modI, u_powI, u_cmpI, u_eqI, u_eqS, u_eqB, u_abs, u_intI, u_intB, u_newT, u_newF, u_isN, u_notN, wVar, List.set_cons_zero, List.set_cons_succ, List.getElem?_cons_zero, List.getElem?_cons_succ, List.length_cons, List.length_nil, u_lc, u_for, u_r1, u_r2, u_r3, u_num, u_notV, u_yes, u_w0, u_w1, u_dput, u_get2, u_dget, u_prop, u_fld, u_setF, u_make, u_makeS, u_met, u_calO, u_orT, u_tupIt, u_dc, u_maxDd, u_dnew, u_tupi, ix_p0, ix_p1, wSl, woNone, woSome]))
  refine ⟨trivial, draw_go I (by omega) (div_ok (by decide) (by decide)) fun way o a2 b2 I _ => ?_⟩
  generalize up _ p o = g1 at I ⊢
  have hj : j ≤ xs.length := by omega
  refine seq_go (fun ρ h' => ρ = [some (.ref p), some (.tup xs), some (.int (j : Nat)), some (.int way), none] ∧ h' = g1) (fun K9 k9 => ?_) ?_
  · have k9 := k9 _ _ ⟨rfl, rfl⟩
    simp only [u_asg, u_gN, u_ret, u_retN, u_skip, u_expr, u_ifs, u_c, u_op, u_neg, u_test, u_and, u_or, u_not, u_if, u_nil, u_cons, u_tup, u_lst, u_callP, u_call, u_b, u_chain, u_andV, u_addI, u_subI, u_mulI, u_divI, u_modI, u_powI, u_cmpI, u_eqI, u_eqS, u_eqB, u_abs, u_intI, u_intB, u_newT, u_newF, u_isN, u_notN, wVar, List.set_cons_zero, List.set_cons_succ, List.getElem?_cons_zero, List.getElem?_cons_succ, List.length_cons, List.length_nil, u_lc, u_for, u_r1, u_r2, u_r3, u_num, u_notV, u_yes, u_w0, u_w1, u_dput, u_get2, u_dget, u_prop, u_fld, u_setF, u_make, u_makeS, u_met, u_calO, u_orT, u_tupIt, u_dc, u_maxDd, u_dnew, u_tupi, ix_p0, ix_p1, wSl, woNone, woSome]
    by_cases c1 : way < 4
    · rw [if_pos (decide_eq_true c1)]
      simp only [u_lenT]
      try simp only [u_asg, u_gN, u_ret, u_retN, u_skip, u_expr, u_ifs, u_c, u_op, u_neg, u_test, u_and, u_or, u_not, u_if, u_nil, u_cons, u_tup, u_lst, u_callP, u_call, u_b, u_chain, u_andV, u_addI, u_subI, u_mulI, u_divI, u_modI, u_powI, u_cmpI, u_eqI, u_eqS, u_eqB, u_abs, u_intI, u_intB, u_newT, u_newF, u_isN, u_notN, wVar, List.set_cons_zero, List.set_cons_succ, List.getElem?_cons_zero, List.getElem?_cons_succ, List.length_cons, List.length_nil, u_lc, u_for, u_r1, u_r2, u_r3, u_num, u_notV, u_yes, u_w0, u_w1, u_dput, u_get2, u_dget, u_prop, u_fld, u_setF, u_make, u_makeS, u_met, u_calO, u_orT, u_tupIt, u_dc, u_maxDd, u_dnew, u_tupi, ix_p0, ix_p1, wSl, woNone, woSome]
      by_cases c2 : (j : Int) < (xs.length : Nat)
      · rw [if_pos (decide_eq_true c2)]
        have lj : j < xs.length := by omega
        have gj : xs[j]? = some xs[j] := List.getElem?_eq_getElem lj
        have mj : xs[j] ∈ xs := List.getElem_mem lj
        obtain ⟨m, hm⟩ := b.act _ mj
        obtain ⟨w, ps, ey, cs⟩ := act_cases hm
        have ej : atI xs (j : Int) = some (.tup (.str w :: ps)) := by rw [atI_nat lj, gj, ey]
        rw [u_ixTd ej]

        rw [u_ixTd at0]
        refine ⟨by decide, _, rfl, rfl, rfl, ?_⟩
        simp only [Bool.false_eq_true, if_false]
        rw [in_two]
        rcases cs with ⟨n1, n2⟩ | cs
        · rw [if_neg (by rw [decide_eq_false (by simp [n1, n2])]; decide)]
          exact k9
        have go : ∀ (as : List D) (zs : List D), D.tup (.str w :: ps) = .tup (as ++ [.tup zs]) → (∀ z ∈ zs, ∃ m, actN m z = true) → (∀ x : D, th x = true → nl x ≤ l + 1 → th (.tup (as ++ [x])) = true ∧ nl (.tup (as ++ [x])) ≤ l + 1 ∧ dep (.tup (as ++ [x])) ≤ max (dep (.tup (as ++ [.tup zs]))) (dep x + 1) ∧ wt (.tup (as ++ [x])) + wt (.tup zs) = wt (.tup (as ++ [.tup zs])) + wt x) →
            (wSeq (wAsg (wOp (dAdd false) (wSl false (wOp dIx (wVar 1) (wVar 2)) woNone (woSome (wNeg (wC (.int 1))))) (wTup (wCons (wCallP (S__law_bent n) 2 (fun ds _ => ds) (wCons (wVar 0) (wCons (wOp dIx (wOp dIx (wVar 1) (wVar 2)) (wNeg (wC (.int 1)))) wNil))) wNil))) (gN 4))
  (wRet (wOp (dAdd false) (wOp (dAdd false) (wSl false (wVar 1) woNone (woSome (wVar 2))) (wTup (wCons (wVar 4) wNil))) (wSl false (wVar 1) (woSome (wOp (dAdd false) (wVar 2) (wC (.int 1)))) woNone)))) { endsD Q X with nx := K9 } [some (.ref p), some (.tup xs), some (.int (j : Nat)), some (.int way), none] g1 := by
          intro as zs e ha grow
          rw [e] at ej
          rw [ey, e] at mj gj
          have hyt := (th_tup b.th).2 _ mj
          have hzt := (th_tup hyt).2 (.tup zs) (by simp)
          have dz := dep_tup (xs := as ++ [.tup zs]) (x := .tup zs) (by simp)
          have dy := dep_tup mj
          have ny := nl_mem b.nl mj
          have nz := nl_mem ny (x := .tup zs) (by simp)
          have wy := wts_split gj
          have wyz := wts_split (xs := as ++ [.tup zs]) (k := as.length) (y := .tup zs) (by simp)
          have wx := b.wt
          have wty : K02.wt (.tup (as ++ [.tup zs])) = 3 + wts (as ++ [.tup zs]) := by rw [K02.wt]
          have wtz : K02.wt (.tup zs) = 3 + wts zs := by rw [K02.wt]
          have wtx : K02.wt (.tup xs) = 3 + wts xs := by rw [K02.wt]
          rw [wtx] at wx
          have lm : atI (as ++ [.tup zs]) (-1) = some (.tup zs) := by
            have : ixN (as ++ [D.tup zs]).length (-1) = some as.length := by
              simp [ixN]
              omega
            rw [atI, this]
            simp
          ((try dsimp only); rw [u_seq]; (try simp only [u_asg, u_gN, u_ret, u_retN, u_skip, u_expr, u_ifs, u_c, u_op, u_neg, u_test, u_and, u_or, u_not, u_if, u_nil, u_cons, u_tup, u_lst, u_callP, u_call, u_b, u_chain, u_andV, u_addI, u_subI, u_mulI, u_divI, u_modI, u_powI, u_cmpI, u_eqI, u_eqS, u_eqB, u_abs, u_intI, u_intB, u_newT, u_newF, u_isN, u_notN, wVar, List.set_cons_zero, List.set_cons_succ, List.getElem?_cons_zero, List.getElem?_cons_succ, List.length_cons, List.length_nil, u_lc, u_for, u_r1, u_r2, u_r3, u_num, u_notV, u_yes, u_w0, u_w1, u_dput, u_get2, u_dget, u_prop, u_fld, u_setF, u_make, u_makeS, u_met, u_calO, u_orT, u_tupIt, u_dc, u_maxDd, u_dnew, u_tupi, ix_p0, ix_p1, wSl, woNone, woSome]))
          try simp only [wSl, woNone, woSome, u_asg, u_gN, u_ret, u_retN, u_skip, u_expr, u_ifs, u_c, u_op, u_neg, u_test, u_and, u_or, u_not, u_if, u_nil, u_cons, u_tup, u_lst, u_callP, u_call, u_b, u_chain, u_andV, u_addI, u_subI, u_mulI, u_divI, u_modI, u_powI, u_cmpI, u_eqI, u_eqS, u_eqB, u_abs, u_intI, u_intB, u_newT, u_newF, u_isN, u_notN, wVar, List.set_cons_zero, List.set_cons_succ, List.getElem?_cons_zero, List.getElem?_cons_succ, List.length_cons, List.length_nil, u_lc, u_for, u_r1, u_r2, u_r3, u_num, u_notV, u_yes, u_w0, u_w1, u_dput, u_get2, u_dget, u_prop, u_fld, u_setF, u_make, u_makeS, u_met, u_calO, u_orT, u_tupIt, u_dc, u_maxDd, u_dnew, u_tupi, ix_p0, ix_p1, wSl, woNone, woSome]
          rw [u_ixTd ej]
          try simp only [dSl]
          rw [cut_m1, u_ixTd ej, u_ixTd lm]
          refine ⟨trivial, c + 1 + 1, p, zs, l, K02.wt (.tup zs), rfl, I.pen, by omega, ⟨hzt, ha, Nat.le_refl _, nz⟩, hl2, hl, by omega, by omega, fun x ys o hx1 hx2 hx3 hx4 hx5 po => ?_⟩
          replace I := I.draw po
          generalize up g1 p o = g1 at I ⊢
          obtain ⟨t1, t2, t3, t4⟩ := grow x hx2 hx5
          have t5 := nl_len t2
          have tl := nl_len ny
          rw [cut_to, show ((j : Int) + 1) = ((j + 1 : Nat) : Int) from rfl, cut_from]
          obtain ⟨s1, s2, s3⟩ := splice (j := j) (k := j + 1) (z := .tup (as ++ [x])) (e := dep (.tup xs) + 4) b.th b.nl (by omega) t1 (by omega) (by omega) (by omega) (by omega)
          have s4 := nl_len s3
          simp only [List.length_append] at s4
          refine ⟨by decide, Nat.le_trans (m := 100) (by simp at t5 ⊢; omega) (by decide), by decide, Nat.le_trans (m := 100) (by simp at s4 ⊢; omega) (by decide), Nat.le_trans (m := 100) (by simp at s4 ⊢; omega) (by decide), ?_⟩
          refine fin0 _ _ _ (1 + 1 + 3 * (n : Int)) (.inl rfl) s1 s2 ?_ s3 (by rw [show c + (1 + 1 + 3 * (n : Int)) = c + 1 + 1 + 3 * (n : Int) by omega]; exact I) (by omega)
          rw [K02.wt, wts_app, wts_app, wts, wts]
          omega
        rw [if_pos (decide_eq_true (by rcases cs with ⟨rfl, _⟩ | ⟨rfl, _⟩; exact .inl rfl; exact .inr rfl))]
        rcases cs with ⟨rfl, zs, rfl, ha⟩ | ⟨rfl, v, zs, rfl, ha⟩
        · refine go [.str "fork"] zs rfl ha fun x hx1 hx2 => ?_
          have hw := word_wt (w := "fork") (.inr (.inr (.inl rfl)))
          refine ⟨?_, ?_, ?_, ?_⟩
          · simp only [List.cons_append, List.nil_append]
            rw [K02.th, ths, ths, ths, hx1, K02.th]; rfl
          · simp only [List.cons_append, List.nil_append, K02.nl, nls, List.length_cons, List.length_nil]; omega
          · simp only [List.cons_append, List.nil_append, K02.dep, deps]; omega
          · simp only [List.cons_append, List.nil_append, K02.wt, wts]; omega
        · refine go [.str "repeat", v] zs rfl ha fun x hx1 hx2 => ?_
          have hyt := (th_tup b.th).2 _ mj
          rw [ey] at hyt mj
          have hvt := (th_tup hyt).2 v (by simp)
          have nv := nl_mem (nl_mem b.nl mj) (x := v) (by simp)
          refine ⟨?_, ?_, ?_, ?_⟩
          · simp only [List.cons_append, List.nil_append]
            rw [K02.th, ths, ths, ths, ths, hx1, hvt, K02.th]; rfl
          · simp only [List.cons_append, List.nil_append, K02.nl, nls, List.length_cons, List.length_nil]; omega
          · simp only [List.cons_append, List.nil_append, K02.dep, deps]; omega
          · simp only [List.cons_append, List.nil_append, K02.wt, wts]; omega
      · rw [if_neg (by rw [decide_eq_false c2]; decide)]
        exact k9
    · rw [if_neg (by rw [decide_eq_false c1]; decide)]
      exact k9
  rintro _ _ ⟨rfl, rfl⟩
  ((try dsimp only); rw [u_seq]; (try simp only [u_asg, u_gN, u_ret, u_retN, u_skip, u_expr, u_ifs, u_c, u_op, u_neg, u_test, u_and, u_or, u_not, u_if, u_nil, u_cons, u_tup, u_lst, u_callP, u_call, u_b, u_chain, u_andV, u_addI, u_subI, u_mulI, u_divI, u_modI, u_powI, u_cmpI, u_eqI, u_eqS, u_eqB, u_abs, u_intI, u_intB, u_newT, u_newF, u_isN, u_notN, wVar, List.set_cons_zero, List.set_cons_succ, List.getElem?_cons_zero, List.getElem?_cons_succ, List.length_cons, List.length_nil, u_lc, u_for, u_r1, u_r2, u_r3, u_num, u_notV, u_yes, u_w0, u_w1, u_dput, u_get2, u_dget, u_prop, u_fld, u_setF, u_make, u_makeS, u_met, u_calO, u_orT, u_tupIt, u_dc, u_maxDd, u_dnew, u_tupi, ix_p0, ix_p1, wSl, woNone, woSome]))
  by_cases c7 : way = 7
  · rw [if_pos (decide_eq_true c7)]
    try simp only [u_asg, u_gN, u_ret, u_retN, u_skip, u_expr, u_ifs, u_c, u_op, u_neg, u_test, u_and, u_or, u_not, u_if, u_nil, u_cons, u_tup, u_lst, u_callP, u_call, u_b, u_chain, u_andV, u_addI, u_subI, u_mulI, u_divI, u_modI, u_powI, u_cmpI, u_eqI, u_eqS, u_eqB, u_abs, u_intI, u_intB, u_newT, u_newF, u_isN, u_notN, wVar, List.set_cons_zero, List.set_cons_succ, List.getElem?_cons_zero, List.getElem?_cons_succ, List.length_cons, List.length_nil, u_lc, u_for, u_r1, u_r2, u_r3, u_num, u_notV, u_yes, u_w0, u_w1, u_dput, u_get2, u_dget, u_prop, u_fld, u_setF, u_make, u_makeS, u_met, u_calO, u_orT, u_tupIt, u_dc, u_maxDd, u_dnew, u_tupi, ix_p0, ix_p1, wSl, woNone, woSome]
    refine ⟨_, _, rfl, rfl, ?_⟩
    rw [u_newF]
    have e1 := b.th
    have e2 := b.wt
    have e3 := b.nl
    refine fin0 (.lst xs) xs _ (1 + 1) (.inr rfl) ?_ ?_ ?_ ?_ (by rw [show c + (1 + 1 : Int) = c + 1 + 1 by omega]; exact I) (by omega)
    · simp only [K02.th] at e1 ⊢; exact e1
    · rw [dep, dep]; omega
    · simp only [K02.wt] at e2 ⊢; omega
    · simp only [K02.nl] at e3 ⊢; omega
  · rw [if_neg (by rw [decide_eq_false c7]; decide)]
    simp only [wSl, woNone, woSome, dSl, u_asg, u_gN, u_ret, u_retN, u_skip, u_expr, u_ifs, u_c, u_op, u_neg, u_test, u_and, u_or, u_not, u_if, u_nil, u_cons, u_tup, u_lst, u_callP, u_call, u_b, u_chain, u_andV, u_addI, u_subI, u_mulI, u_divI, u_modI, u_powI, u_cmpI, u_eqI, u_eqS, u_eqB, u_abs, u_intI, u_intB, u_newT, u_newF, u_isN, u_notN, wVar, List.set_cons_zero, List.set_cons_succ, List.getElem?_cons_zero, List.getElem?_cons_succ, List.length_cons, List.length_nil, u_lc, u_for, u_r1, u_r2, u_r3, u_num, u_notV, u_yes, u_w0, u_w1, u_dput, u_get2, u_dget, u_prop, u_fld, u_setF, u_make, u_makeS, u_met, u_calO, u_orT, u_tupIt, u_dc, u_maxDd, u_dnew, u_tupi, ix_p0, ix_p1, wSl, woNone, woSome]
    rw [cut_to]
    refine ⟨trivial, c + 1 + 1, p, rfl, I.pen, by omega, fun x o hx1 hx2 hx3 hx4 po => ?_⟩
    replace I := I.draw po
    generalize up g1 p o = g1 at I ⊢
    obtain ⟨v, hv, ev⟩ : ∃ v : Nat, v ≤ 1 ∧ way % 2 = (v : Int) := ⟨(way % 2).toNat, by omega, by omega⟩
    rw [ev]
    rw [show ((j : Int) + (v : Int)) = ((j + v : Nat) : Int) from rfl, cut_from]
    obtain ⟨s1, s2, s3⟩ := splice (j := j) (k := j + v) (z := x) (e := dep (.tup xs) + 4) b.th b.nl (by omega) hx1 (by omega) (by omega) (by omega) (by omega)
    have s4 := nl_len s3
    simp only [List.length_append] at s4
    refine ⟨by decide, ⟨Nat.le_trans (m := 100) (by simp at s4 ⊢; omega) (by decide), ?_⟩⟩
    refine ⟨by decide, ⟨Nat.le_trans (m := 100) (by simp at s4 ⊢; omega) (by decide), ?_⟩⟩
    refine fin0 _ _ _ (1 + 1 + 1) (.inl rfl) s1 s2 ?_ s3 (by rw [show c + (1 + 1 + 1 : Int) = c + 1 + 1 + 1 by omega]; exact I) (by omega)
    have e2 := b.wt
    have e4 := wts_take_drop (xs := xs) (j := j) (k := j + v) (by omega)
    simp only [K02.wt] at e2 ⊢
    rw [wts_app, wts_app, wts, wts]
    omega
end K02
namespace K02
open PySem PySem.Spec L2 C8 DL
structure OkT (x : D) : Prop where
  th : th x = true
  de : dep x ≤ 18
  wt : wt x ≤ 2000000
theorem deeds_ok {xs : List D} (ht : K02.th (.tup xs) = true) (hd : dep (.tup xs) ≤ 17) (hw : K02.wt (.tup xs) ≤ 1000000) : OkT (.tup xs) ∧ ∀ y ∈ xs, OkT y := by
  refine ⟨⟨ht, by omega, by omega⟩, fun y hy => ⟨(th_tup ht).2 y hy, ?_, ?_⟩⟩
  · have := dep_tup hy; omega
  · obtain ⟨i, hi⟩ := List.getElem?_of_mem hy
    have := wts_split hi
    rw [K02.wt] at hw
    omega
theorem as_tup {xs : List D} : dep (.lst xs) = dep (.tup xs) ∧ K02.wt (.lst xs) = K02.wt (.tup xs) ∧ K02.th (.lst xs) = K02.th (.tup xs) ∧ K02.nl (.lst xs) = K02.nl (.tup xs) := by
  refine ⟨by rw [dep, dep], by rw [K02.wt, K02.wt], by simp only [K02.th], by simp only [K02.nl]⟩
theorem wts_filter {p : D → Bool} : ∀ {xs : List D}, wts (xs.filter p) ≤ wts xs
  | [] => Nat.le_refl _
  | x :: xs => by
    have := wts_filter (p := p) (xs := xs)
    rw [List.filter_cons]
    split
    · rw [wts, wts]; omega
    · rw [wts]; omega
theorem filt_ok {zs : List D} {p : D → Bool} {l r : Nat} (ht : K02.th (.tup zs) = true) (hw : K02.wt (.tup zs) ≤ r) (hn : K02.nl (.tup zs) ≤ l) (hp : ∀ y, p y = true → ∃ m, actN m y = true) :
    Bd2 (zs.filter p) l r ∧ dep (.tup (zs.filter p)) ≤ dep (.tup zs) := by
  obtain ⟨hl, hm⟩ := th_tup ht
  have ln := List.length_filter_le p zs
  refine ⟨⟨?_, fun y hy => hp y (List.mem_filter.mp hy).2, ?_, ?_⟩, ?_⟩
  · rw [K02.th, Bool.and_eq_true, decide_eq_true_iff]
    exact ⟨by omega, ths_all fun y hy => hm y (List.mem_filter.mp hy).1⟩
  · have := wts_filter (p := p) (xs := zs)
    rw [K02.wt] at hw ⊢
    omega
  · have h2 := nl_len hn
    rw [K02.nl]
    exact Nat.max_le.mpr ⟨by omega, nls_le fun y hy => nl_mem hn (List.mem_filter.mp hy).1⟩
  · rw [dep]
    exact deps_le fun y hy => dep_tup (List.mem_filter.mp hy).1
theorem filt_map {p : D → Bool} : ∀ zs : List D, List.filterMap (fun y => if p y = true then some y else none) zs = zs.filter p
  | [] => rfl
  | z :: zs => by rw [List.filterMap_cons, List.filter_cons, filt_map zs]; cases p z <;> rfl
theorem byt_int {w : Str} {ps : List D} (h : headL (.str w :: ps) = true) : ∃ n : Int, n.natAbs < 2 ^ 12 ∧ bytD (.str w :: ps) = .int n ∧ (w = "write" → ps = [.int n]) := by
  by_cases c : w = "write"
  · subst c
    unfold headL at h
    dsimp only at h
    rw [bare_write, if_neg (by decide), if_pos rfl] at h
    match ps, h with
    | [x], h =>
      have h : btw x 1 2000 = true := h
      cases x with
      | int i =>
        have h : (decide (1 ≤ i) && decide (i ≤ 2000)) = true := h
        simp only [Bool.and_eq_true, decide_eq_true_iff] at h
        exact ⟨i, by omega, rfl, fun _ => rfl⟩
      | _ => cases h
  · unfold bytD
    dsimp only
    rw [if_neg c]
    by_cases c2 : w = "line"
    · rw [if_pos c2]; exact ⟨1, by decide, rfl, fun z => absurd z c⟩
    · rw [if_neg c2]; exact ⟨0, by decide, rfl, fun z => absurd z c⟩
theorem act_bytes {y : D} {m : Nat} (h : actN m y = true) : ∃ xs, y = .tup xs ∧ headL xs = true := by
  cases m with
  | zero => rw [actN] at h; cases h
  | succ m =>
    cases t : isTup y with
    | false => rw [actN_non t] at h; cases h
    | true =>
      obtain ⟨xs, rfl⟩ := tup_of t
      rw [actN_tup, Bool.and_eq_true] at h
      exact ⟨xs, rfl, h.1⟩
theorem p_law : ∀ ds h Q X, S_law ds h Q X → w_law (endsD Q X) (startD 10 ds) h := by
  rintro ds h Q X ⟨js, rfl, rfl, q⟩
  show w_law (endsD Q X) [some (.lk (js.map D.int)), none, none, none, none, none, none, none, none, none] _
  have q : ∀ h', fin Q (.bl true) h' := fun h' => fin_of (q h')
  have big := big_size
  unfold w_law
  ((try dsimp only); rw [u_seq]; (try simp only [u_asg, u_gN, u_ret, u_retN, u_skip, u_expr, u_ifs, u_c, u_op, u_neg, u_test, u_and, u_or, u_not, u_if, u_nil, u_cons, u_tup, u_lst, u_callP, u_call, u_b, u_chain, u_andV, u_addI, u_subI, u_mulI, u_divI, u_modI, u_powI, u_cmpI, u_eqI, u_eqS, u_eqB, u_abs, u_intI, u_intB, u_newT, u_newF, u_isN, u_notN, wVar, List.set_cons_zero, List.set_cons_succ, List.getElem?_cons_zero, List.getElem?_cons_succ, List.length_cons, List.length_nil, u_lc, u_for, u_r1, u_r2, u_r3, u_num, u_notV, u_yes, u_w0, u_w1, u_dput, u_get2, u_dget, u_prop, u_fld, u_setF, u_make, u_makeS, u_met, u_calO, u_orT, u_tupIt, u_dc, u_maxDd, u_dnew, u_tupi, ix_p0, ix_p1, wSl, woNone, woSome]))
  refine ⟨trivial, js, rfl, fun p o _ r0 => ?_⟩
  have I : PenAt 0 (up (fun _ => none) p o) p := ⟨o, up_same, r0⟩
  generalize up (fun _ => none) p o = h at I ⊢
  replace I := Inv0.start I
  refine seq_go (fun ρ h' => ∃ a2 a3 a4 a5 a6 a7 a8, ρ = [some (.lk (js.map D.int)), some (.ref p), a2, a3, a4, a5, a6, a7, a8, none]) (fun K k => ?_) ?_
  · simp only [u_asg, u_gN, u_ret, u_retN, u_skip, u_expr, u_ifs, u_c, u_op, u_neg, u_test, u_and, u_or, u_not, u_if, u_nil, u_cons, u_tup, u_lst, u_callP, u_call, u_b, u_chain, u_andV, u_addI, u_subI, u_mulI, u_divI, u_modI, u_powI, u_cmpI, u_eqI, u_eqS, u_eqB, u_abs, u_intI, u_intB, u_newT, u_newF, u_isN, u_notN, wVar, List.set_cons_zero, List.set_cons_succ, List.getElem?_cons_zero, List.getElem?_cons_succ, List.length_cons, List.length_nil, u_lc, u_for, u_r1, u_r2, u_r3, u_num, u_notV, u_yes, u_w0, u_w1, u_dput, u_get2, u_dget, u_prop, u_fld, u_setF, u_make, u_makeS, u_met, u_calO, u_orT, u_tupIt, u_dc, u_maxDd, u_dnew, u_tupi, ix_p0, ix_p1, wSl, woNone, woSome]
    refine ⟨by decide, by decide, ?_⟩
    refine loop_go (fun i ρ h' => ∃ a2 a3 a4 a5 a6 a7 a8, ρ = [some (.lk (js.map D.int)), some (.ref p), a2, a3, a4, a5, a6, a7, a8, none] ∧ Inv0 h p (2200 * i) h') ⟨_, _, _, _, _, _, _, rfl, by simpa using I⟩ (fun _ _ _ _ => trivial) ?_ ?_
    · rintro i x _ g K9 hi ⟨a2, a3, a4, a5, a6, a7, a8, rfl, I⟩ k9
      obtain ⟨rfl, li⟩ := intsD_get hi
      have li : i < 8 := li
      rw [u_gN]
      dsimp only [List.set_cons_zero, List.set_cons_succ]
      ((try dsimp only); rw [u_seq]; (try simp only [u_asg, u_gN, u_ret, u_retN, u_skip, u_expr, u_ifs, u_c, u_op, u_neg, u_test, u_and, u_or, u_not, u_if, u_nil, u_cons, u_tup, u_lst, u_callP, u_call, u_b, u_chain, u_andV, u_addI, u_subI, u_mulI, u_divI, u_modI, u_powI, u_cmpI, u_eqI, u_eqS, u_eqB, u_abs, u_intI, u_intB, u_newT, u_newF, u_isN, u_notN, wVar, List.set_cons_zero, List.set_cons_succ, List.getElem?_cons_zero, List.getElem?_cons_succ, List.length_cons, List.length_nil, u_lc, u_for, u_r1, u_r2, u_r3, u_num, u_notV, u_yes, u_w0, u_w1, u_dput, u_get2, u_dget, u_prop, u_fld, u_setF, u_make, u_makeS, u_met, u_calO, u_orT, u_tupIt, u_dc, u_maxDd, u_dnew, u_tupi, ix_p0, ix_p1, wSl, woNone, woSome]))
      refine ⟨trivial, 2200 * i, p, rfl, I.pen, by omega, fun ws o hw po => ?_⟩
      replace I := I.draw po
      generalize up g p o = g1 at I ⊢
      refine ⟨trivial, _, p, 2, ws, 5, rfl, I.pen, by omega, hw, by decide, by decide, by decide, fun ys o by_ po => ?_⟩
      replace I := I.draw po
      generalize up g1 p o = g1 at I ⊢
      ((try dsimp only); rw [u_seq]; (try simp only [u_asg, u_gN, u_ret, u_retN, u_skip, u_expr, u_ifs, u_c, u_op, u_neg, u_test, u_and, u_or, u_not, u_if, u_nil, u_cons, u_tup, u_lst, u_callP, u_call, u_b, u_chain, u_andV, u_addI, u_subI, u_mulI, u_divI, u_modI, u_powI, u_cmpI, u_eqI, u_eqS, u_eqB, u_abs, u_intI, u_intB, u_newT, u_newF, u_isN, u_notN, wVar, List.set_cons_zero, List.set_cons_succ, List.getElem?_cons_zero, List.getElem?_cons_succ, List.length_cons, List.length_nil, u_lc, u_for, u_r1, u_r2, u_r3, u_num, u_notV, u_yes, u_w0, u_w1, u_dput, u_get2, u_dget, u_prop, u_fld, u_setF, u_make, u_makeS, u_met, u_calO, u_orT, u_tupIt, u_dc, u_maxDd, u_dnew, u_tupi, ix_p0, ix_p1, wSl, woNone, woSome]))
      have e2 : pN 2 = 2000 := rfl
      rw [e2] at I
      refine ⟨trivial, _, p, ys, 20, bN 2, rfl, I.pen, by omega, ⟨by_.th, by_.act, by_.wt, by_.nl⟩, by decide, by decide, by have := by_.de; omega, by decide, fun x zs o hx xt xd xw xn po => ?_⟩
      replace I := I.draw po
      generalize up g1 p o = g1 at I ⊢
      ((try dsimp only); rw [u_seq]; (try simp only [u_asg, u_gN, u_ret, u_retN, u_skip, u_expr, u_ifs, u_c, u_op, u_neg, u_test, u_and, u_or, u_not, u_if, u_nil, u_cons, u_tup, u_lst, u_callP, u_call, u_b, u_chain, u_andV, u_addI, u_subI, u_mulI, u_divI, u_modI, u_powI, u_cmpI, u_eqI, u_eqS, u_eqB, u_abs, u_intI, u_intB, u_newT, u_newF, u_isN, u_notN, wVar, List.set_cons_zero, List.set_cons_succ, List.getElem?_cons_zero, List.getElem?_cons_succ, List.length_cons, List.length_nil, u_lc, u_for, u_r1, u_r2, u_r3, u_num, u_notV, u_yes, u_w0, u_w1, u_dput, u_get2, u_dget, u_prop, u_fld, u_setF, u_make, u_makeS, u_met, u_calO, u_orT, u_tupIt, u_dc, u_maxDd, u_dnew, u_tupi, ix_p0, ix_p1, wSl, woNone, woSome]))
      refine ⟨trivial, _, p, rfl, I.pen, by omega, fun od o ot odd_ odw odn po => ?_⟩
      replace I := I.draw po
      generalize up g1 p o = g1 at I ⊢
      obtain ⟨ys_d, ys_m⟩ := deeds_ok by_.th (by have := by_.de; omega) (Nat.le_trans by_.wt (by decide))
      have b2 : bN 2 = 300000 := rfl
      rw [b2] at xw
      have byd := by_.de
      have byw := by_.wt
      have xt2 : K02.th (.tup zs) = true ∧ dep (.tup zs) = dep x ∧ K02.wt (.tup zs) = K02.wt x ∧ K02.nl (.tup zs) = K02.nl x := by
        rcases hx with rfl | rfl
        · exact ⟨xt, rfl, rfl, rfl⟩
        · obtain ⟨c1, c2, c3, c4⟩ := as_tup (xs := zs)
          exact ⟨by rw [← c3]; exact xt, c1.symm, c2.symm, c4.symm⟩
      obtain ⟨zs_d, zs_m⟩ := deeds_ok xt2.1 (by omega) (by omega)
      have sx : seqOf g1 x = some zs := by rcases hx with rfl | rfl <;> rfl
      refine ⟨by decide, by decide, _, _, rfl, rfl, ?_⟩
      rw [u_newF]
      have lys := by_.len
      have lzs := nl_len (l := 21) (by rw [xt2.2.2.2]; exact xn)
      refine ⟨_, _, rfl, rfl, by simp; omega, ?_⟩
      rw [u_newF]
      refine ⟨_, _, rfl, sx, ?_⟩
      rw [u_newF]
      refine ⟨_, _, rfl, rfl, by simp; omega, ?_⟩
      rw [u_newT]
      intro b hb
      have b0 := I.fresh hb
      replace I := I.new (o := .lst ([D.tup ys, x, od, D.tup [D.tup ys]] ++ ys ++ zs)) hb
      have hb1 : (up g1 b (.lst ([D.tup ys, x, od, D.tup [D.tup ys]] ++ ys ++ zs))) b = some (.lst ([D.tup ys, x, od, D.tup [D.tup ys]] ++ ys ++ zs)) := up_same
      have all1 : ∀ t ∈ [D.tup ys, x, od, D.tup [D.tup ys]] ++ ys ++ zs, OkT t := fun t ht => by
        rcases List.mem_append.mp ht with ht | ht
        · rcases List.mem_append.mp ht with ht | ht
          · have : t = .tup ys ∨ t = x ∨ t = od ∨ t = .tup [.tup ys] := by simpa using ht
            rcases this with rfl | rfl | rfl | rfl
            · exact ys_d
            · exact ⟨xt, by omega, by omega⟩
            · exact ⟨ot, by omega, by omega⟩
            · refine ⟨?_, ?_, ?_⟩
              · rw [K02.th, ths, ths, ys_d.th]; rfl
              · have := ys_d.de
                rw [dep, deps, deps]; omega
              · rw [K02.wt, wts, wts]; omega
          · exact ys_m t ht
        · exact zs_m t ht
      have lts : ([D.tup ys, x, od, D.tup [D.tup ys]] ++ ys ++ zs).length < 100 := by simp; omega
      generalize [D.tup ys, x, od, D.tup [D.tup ys]] ++ ys ++ zs = ts at hb1 all1 lts I ⊢
      generalize up g1 b (.lst ts) = g1 at I hb1 ⊢
      have sx : seqOf g1 x = some zs := by rcases hx with rfl | rfl <;> rfl
      refine seq_go (fun ρ h' => ∃ us, ρ = [some (.lk (js.map D.int)), some (.ref p), some (.int (0 + (i : Nat))), some (.tup ys), some x, some (.ref b), a6, a7, a8, none] ∧ Inv0 h p (2200 * i + 2200) h' ∧ h' b = some (.lst us) ∧ ∀ t ∈ us, OkT t) (fun K2 k2 => ?_) ?_
      · try simp only [u_asg, u_gN, u_ret, u_retN, u_skip, u_expr, u_ifs, u_c, u_op, u_neg, u_test, u_and, u_or, u_not, u_if, u_nil, u_cons, u_tup, u_lst, u_callP, u_call, u_b, u_chain, u_andV, u_addI, u_subI, u_mulI, u_divI, u_modI, u_powI, u_cmpI, u_eqI, u_eqS, u_eqB, u_abs, u_intI, u_intB, u_newT, u_newF, u_isN, u_notN, wVar, List.set_cons_zero, List.set_cons_succ, List.getElem?_cons_zero, List.getElem?_cons_succ, List.length_cons, List.length_nil, u_lc, u_for, u_r1, u_r2, u_r3, u_num, u_notV, u_yes, u_w0, u_w1, u_dput, u_get2, u_dget, u_prop, u_fld, u_setF, u_make, u_makeS, u_met, u_calO, u_orT, u_tupIt, u_dc, u_maxDd, u_dnew, u_tupi, ix_p0, ix_p1, wSl, woNone, woSome]
        refine go_tup xt ?_
        rcases hx with rfl | rfl
        · simp only [isTup, if_true]
          simp only [wMethT, u_asg, u_gN, u_ret, u_retN, u_skip, u_expr, u_ifs, u_c, u_op, u_neg, u_test, u_and, u_or, u_not, u_if, u_nil, u_cons, u_tup, u_lst, u_callP, u_call, u_b, u_chain, u_andV, u_addI, u_subI, u_mulI, u_divI, u_modI, u_powI, u_cmpI, u_eqI, u_eqS, u_eqB, u_abs, u_intI, u_intB, u_newT, u_newF, u_isN, u_notN, wVar, List.set_cons_zero, List.set_cons_succ, List.getElem?_cons_zero, List.getElem?_cons_succ, List.length_cons, List.length_nil, u_lc, u_for, u_r1, u_r2, u_r3, u_num, u_notV, u_yes, u_w0, u_w1, u_dput, u_get2, u_dget, u_prop, u_fld, u_setF, u_make, u_makeS, u_met, u_calO, u_orT, u_tupIt, u_dc, u_maxDd, u_dnew, u_tupi, ix_p0, ix_p1, wSl, woNone, woSome]
          refine ⟨⟨_, lst_ref hb1⟩, fun c hc => ?_⟩
          have cb : c ≠ b := by rintro rfl; rw [hb1] at hc; cases hc
          refine comp_pure (fun y => if actN 20 y = true then some y else none) (fun _ => trivial) (by omega) ?_ ?_
          · intro y acc K3 hy la k3
            have hyt := (th_tup xt2.1).2 y hy
            have hyd := dep_tup hy
            try simp only [u_asg, u_gN, u_ret, u_retN, u_skip, u_expr, u_ifs, u_c, u_op, u_neg, u_test, u_and, u_or, u_not, u_if, u_nil, u_cons, u_tup, u_lst, u_callP, u_call, u_b, u_chain, u_andV, u_addI, u_subI, u_mulI, u_divI, u_modI, u_powI, u_cmpI, u_eqI, u_eqS, u_eqB, u_abs, u_intI, u_intB, u_newT, u_newF, u_isN, u_notN, wVar, List.set_cons_zero, List.set_cons_succ, List.getElem?_cons_zero, List.getElem?_cons_succ, List.length_cons, List.length_nil, u_lc, u_for, u_r1, u_r2, u_r3, u_num, u_notV, u_yes, u_w0, u_w1, u_dput, u_get2, u_dget, u_prop, u_fld, u_setF, u_make, u_makeS, u_met, u_calO, u_orT, u_tupIt, u_dc, u_maxDd, u_dnew, u_tupi, ix_p0, ix_p1, wSl, woNone, woSome]
            refine ⟨trivial, y, rfl, hyt, by omega, ?_⟩
            cases e : actN 20 y with
            | true =>
              simp only [e, if_true, Option.toList_some] at k3 ⊢
              exact ⟨acc, up_same, la, by rw [up_up]; exact k3⟩
            | false =>
              simp only [e, Bool.false_eq_true, if_false, Option.toList_none, List.append_nil] at k3 ⊢
              exact k3
          · refine ⟨_, up_same, ?_⟩
            rw [if_neg (by decide), rm_up, rm_none hc]
            rw [filt_map]
            obtain ⟨f1, f2⟩ := filt_ok (p := actN 20) (l := 21) xt2.1 xw xn fun y h => ⟨20, h⟩
            refine ⟨_, _, rfl, rfl, trivial, _, p, _, 21, _, rfl, I.pen, by omega, f1, by decide, by decide, by omega, by omega, fun y vs o hy yt yd yw yn po => ?_⟩
            replace I := I.draw po
            have hb3 : (up g1 p o) b = some (.lst ts) := by rw [up_ne b0.2]; exact hb1
            generalize up g1 p o = g1 at I hb3 ⊢
            refine ⟨b, ts, y, rfl, rfl, hb3, by omega, k2 _ _ ⟨ts ++ [y], rfl, (I.mono (by omega)).put b0.1, up_same, fun t ht => ?_⟩⟩
            rcases List.mem_append.mp ht with ht | ht
            · exact all1 t ht
            · have : t = y := by simpa using ht
              rw [this]
              exact ⟨yt, by omega, by omega⟩
        · simp only [isTup, Bool.false_eq_true, if_false]
          exact k2 _ _ ⟨ts, rfl, I.mono (by omega), hb1, all1⟩
      · rintro _ g2 ⟨us, rfl, I, hb2, all2⟩
        refine seq_go (fun ρ h' => ∃ a6, ρ = [some (.lk (js.map D.int)), some (.ref p), some (.int (0 + (i : Nat))), some (.tup ys), some x, some (.ref b), a6, a7, a8, none] ∧ g2 = h') (fun K2 k2 => ?_) ?_
        · try simp only [u_asg, u_gN, u_ret, u_retN, u_skip, u_expr, u_ifs, u_c, u_op, u_neg, u_test, u_and, u_or, u_not, u_if, u_nil, u_cons, u_tup, u_lst, u_callP, u_call, u_b, u_chain, u_andV, u_addI, u_subI, u_mulI, u_divI, u_modI, u_powI, u_cmpI, u_eqI, u_eqS, u_eqB, u_abs, u_intI, u_intB, u_newT, u_newF, u_isN, u_notN, wVar, List.set_cons_zero, List.set_cons_succ, List.getElem?_cons_zero, List.getElem?_cons_succ, List.length_cons, List.length_nil, u_lc, u_for, u_r1, u_r2, u_r3, u_num, u_notV, u_yes, u_w0, u_w1, u_dput, u_get2, u_dget, u_prop, u_fld, u_setF, u_make, u_makeS, u_met, u_calO, u_orT, u_tupIt, u_dc, u_maxDd, u_dnew, u_tupi, ix_p0, ix_p1, wSl, woNone, woSome]
          refine ⟨us, hb2, ?_⟩
          refine loop_go (fun _ ρ h' => ∃ a6, ρ = [some (.lk (js.map D.int)), some (.ref p), some (.int (0 + (i : Nat))), some (.tup ys), some x, some (.ref b), a6, a7, a8, none] ∧ g2 = h') ⟨a6, rfl, rfl⟩ (fun _ _ _ ⟨_, _, e⟩ => e ▸ hb2) ?_ (fun ρ h' ⟨a6, e1, e2⟩ => k2 _ _ ⟨a6, e1, e2⟩)
          rintro j t _ _ K3 hj ⟨a6, rfl, rfl⟩ k3
          have ht := all2 t (List.mem_of_getElem? hj)
          rw [u_gN]
          dsimp only [List.set_cons_zero, List.set_cons_succ]
          try simp only [u_asg, u_gN, u_ret, u_retN, u_skip, u_expr, u_ifs, u_c, u_op, u_neg, u_test, u_and, u_or, u_not, u_if, u_nil, u_cons, u_tup, u_lst, u_callP, u_call, u_b, u_chain, u_andV, u_addI, u_subI, u_mulI, u_divI, u_modI, u_powI, u_cmpI, u_eqI, u_eqS, u_eqB, u_abs, u_intI, u_intB, u_newT, u_newF, u_isN, u_notN, wVar, List.set_cons_zero, List.set_cons_succ, List.getElem?_cons_zero, List.getElem?_cons_succ, List.length_cons, List.length_nil, u_lc, u_for, u_r1, u_r2, u_r3, u_num, u_notV, u_yes, u_w0, u_w1, u_dput, u_get2, u_dget, u_prop, u_fld, u_setF, u_make, u_makeS, u_met, u_calO, u_orT, u_tupIt, u_dc, u_maxDd, u_dnew, u_tupi, ix_p0, ix_p1, wSl, woNone, woSome]
          refine ⟨trivial, t, rfl, ht.th, ht.de, ht.wt, ?_⟩
          simp only [Bool.not_true, Bool.false_eq_true, if_false]
          exact k3 _ _ ⟨_, rfl, rfl⟩
        · rintro _ _ ⟨a6, rfl, rfl⟩
          try simp only [u_asg, u_gN, u_ret, u_retN, u_skip, u_expr, u_ifs, u_c, u_op, u_neg, u_test, u_and, u_or, u_not, u_if, u_nil, u_cons, u_tup, u_lst, u_callP, u_call, u_b, u_chain, u_andV, u_addI, u_subI, u_mulI, u_divI, u_modI, u_powI, u_cmpI, u_eqI, u_eqS, u_eqB, u_abs, u_intI, u_intB, u_newT, u_newF, u_isN, u_notN, wVar, List.set_cons_zero, List.set_cons_succ, List.getElem?_cons_zero, List.getElem?_cons_succ, List.length_cons, List.length_nil, u_lc, u_for, u_r1, u_r2, u_r3, u_num, u_notV, u_yes, u_w0, u_w1, u_dput, u_get2, u_dget, u_prop, u_fld, u_setF, u_make, u_makeS, u_met, u_calO, u_orT, u_tupIt, u_dc, u_maxDd, u_dnew, u_tupi, ix_p0, ix_p1, wSl, woNone, woSome]
          refine loop_go (fun _ ρ h' => ∃ a7 a8, ρ = [some (.lk (js.map D.int)), some (.ref p), some (.int (0 + (i : Nat))), some (.tup ys), some x, some (.ref b), a6, a7, a8, none] ∧ g2 = h') ⟨a7, a8, rfl, rfl⟩ (fun _ _ _ _ => trivial) ?_ (fun ρ h' ⟨a7, a8, e1, e2⟩ => k9 _ _ ⟨_, _, _, _, _, _, _, e1, by rw [← e2, show (2200 * ((i + 1 : Nat) : Int)) = 2200 * i + 2200 by omega]; exact I⟩)
          rintro j t _ _ K3 hj ⟨a7, a8, rfl, rfl⟩ k3
          obtain ⟨m, hm⟩ := by_.act t (List.mem_of_getElem? hj)
          obtain ⟨vs, rfl, hv⟩ := act_bytes hm
          obtain ⟨w, ps, rfl⟩ := head_str hv
          rw [u_gN]
          dsimp only [List.set_cons_zero, List.set_cons_succ]
          obtain ⟨n, ln, due, dw⟩ := byt_int hv
          refine seq_go (fun ρ h' => ρ = [some (.lk (js.map D.int)), some (.ref p), some (.int (0 + (i : Nat))), some (.tup ys), some x, some (.ref b), a6, some (.tup (.str w :: ps)), some (.int n), none] ∧ g2 = h') (fun K4 k4 => ?_) ?_
          · try simp only [u_asg, u_gN, u_ret, u_retN, u_skip, u_expr, u_ifs, u_c, u_op, u_neg, u_test, u_and, u_or, u_not, u_if, u_nil, u_cons, u_tup, u_lst, u_callP, u_call, u_b, u_chain, u_andV, u_addI, u_subI, u_mulI, u_divI, u_modI, u_powI, u_cmpI, u_eqI, u_eqS, u_eqB, u_abs, u_intI, u_intB, u_newT, u_newF, u_isN, u_notN, wVar, List.set_cons_zero, List.set_cons_succ, List.getElem?_cons_zero, List.getElem?_cons_succ, List.length_cons, List.length_nil, u_lc, u_for, u_r1, u_r2, u_r3, u_num, u_notV, u_yes, u_w0, u_w1, u_dput, u_get2, u_dget, u_prop, u_fld, u_setF, u_make, u_makeS, u_met, u_calO, u_orT, u_tupIt, u_dc, u_maxDd, u_dnew, u_tupi, ix_p0, ix_p1, wSl, woNone, woSome]
            rw [u_ixTd at0]
            try simp only [u_asg, u_gN, u_ret, u_retN, u_skip, u_expr, u_ifs, u_c, u_op, u_neg, u_test, u_and, u_or, u_not, u_if, u_nil, u_cons, u_tup, u_lst, u_callP, u_call, u_b, u_chain, u_andV, u_addI, u_subI, u_mulI, u_divI, u_modI, u_powI, u_cmpI, u_eqI, u_eqS, u_eqB, u_abs, u_intI, u_intB, u_newT, u_newF, u_isN, u_notN, wVar, List.set_cons_zero, List.set_cons_succ, List.getElem?_cons_zero, List.getElem?_cons_succ, List.length_cons, List.length_nil, u_lc, u_for, u_r1, u_r2, u_r3, u_num, u_notV, u_yes, u_w0, u_w1, u_dput, u_get2, u_dget, u_prop, u_fld, u_setF, u_make, u_makeS, u_met, u_calO, u_orT, u_tupIt, u_dc, u_maxDd, u_dnew, u_tupi, ix_p0, ix_p1, wSl, woNone, woSome]
            by_cases c1 : w = "write"
            · rw [if_pos (decide_eq_true c1)]
              have e := dw c1
              subst e
              rw [u_ixTd at1]
              exact k4 _ _ ⟨rfl, rfl⟩
            · rw [if_neg (by rw [decide_eq_false c1]; decide)]
              rw [u_ixTd at0]
              try simp only [u_asg, u_gN, u_ret, u_retN, u_skip, u_expr, u_ifs, u_c, u_op, u_neg, u_test, u_and, u_or, u_not, u_if, u_nil, u_cons, u_tup, u_lst, u_callP, u_call, u_b, u_chain, u_andV, u_addI, u_subI, u_mulI, u_divI, u_modI, u_powI, u_cmpI, u_eqI, u_eqS, u_eqB, u_abs, u_intI, u_intB, u_newT, u_newF, u_isN, u_notN, wVar, List.set_cons_zero, List.set_cons_succ, List.getElem?_cons_zero, List.getElem?_cons_succ, List.length_cons, List.length_nil, u_lc, u_for, u_r1, u_r2, u_r3, u_num, u_notV, u_yes, u_w0, u_w1, u_dput, u_get2, u_dget, u_prop, u_fld, u_setF, u_make, u_makeS, u_met, u_calO, u_orT, u_tupIt, u_dc, u_maxDd, u_dnew, u_tupi, ix_p0, ix_p1, wSl, woNone, woSome]
              unfold bytD at due
              dsimp only at due
              rw [if_neg c1] at due
              by_cases c2 : w = "line"
              · rw [if_pos c2] at due
                cases due
                rw [decide_eq_true c2]
                exact k4 _ _ ⟨rfl, rfl⟩
              · rw [if_neg c2] at due
                cases due
                rw [decide_eq_false c2]
                exact k4 _ _ ⟨rfl, rfl⟩
          · rintro _ _ ⟨rfl, rfl⟩
            try simp only [u_asg, u_gN, u_ret, u_retN, u_skip, u_expr, u_ifs, u_c, u_op, u_neg, u_test, u_and, u_or, u_not, u_if, u_nil, u_cons, u_tup, u_lst, u_callP, u_call, u_b, u_chain, u_andV, u_addI, u_subI, u_mulI, u_divI, u_modI, u_powI, u_cmpI, u_eqI, u_eqS, u_eqB, u_abs, u_intI, u_intB, u_newT, u_newF, u_isN, u_notN, wVar, List.set_cons_zero, List.set_cons_succ, List.getElem?_cons_zero, List.getElem?_cons_succ, List.length_cons, List.length_nil, u_lc, u_for, u_r1, u_r2, u_r3, u_num, u_notV, u_yes, u_w0, u_w1, u_dput, u_get2, u_dget, u_prop, u_fld, u_setF, u_make, u_makeS, u_met, u_calO, u_orT, u_tupIt, u_dc, u_maxDd, u_dnew, u_tupi, ix_p0, ix_p1, wSl, woNone, woSome]
            have rp : Rp (.lst [.int n, .int n]) 1 100 := (rp_lst (k := 0) (n := 13) (l := 2) (fun y hy => by
              have : y = .int n := by simpa using hy
              rw [this]; exact rp_int (by decide) (by decide) ln) (by simp)).up (by decide) (by decide)
            refine ⟨trivial, _, rfl, hv, trivial, trivial, _, rfl, hv, by decide, ?_⟩
            rw [due]
            try simp only [u_asg, u_gN, u_ret, u_retN, u_skip, u_expr, u_ifs, u_c, u_op, u_neg, u_test, u_and, u_or, u_not, u_if, u_nil, u_cons, u_tup, u_lst, u_callP, u_call, u_b, u_chain, u_andV, u_addI, u_subI, u_mulI, u_divI, u_modI, u_powI, u_cmpI, u_eqI, u_eqS, u_eqB, u_abs, u_intI, u_intB, u_newT, u_newF, u_isN, u_notN, wVar, List.set_cons_zero, List.set_cons_succ, List.getElem?_cons_zero, List.getElem?_cons_succ, List.length_cons, List.length_nil, u_lc, u_for, u_r1, u_r2, u_r3, u_num, u_notV, u_yes, u_w0, u_w1, u_dput, u_get2, u_dget, u_prop, u_fld, u_setF, u_make, u_makeS, u_met, u_calO, u_orT, u_tupIt, u_dc, u_maxDd, u_dnew, u_tupi, ix_p0, ix_p1, wSl, woNone, woSome]
            refine rp_go rp (by decide) (by decide) rfl ?_
            refine ⟨by decide, ?_⟩
            try simp only [u_asg, u_gN, u_ret, u_retN, u_skip, u_expr, u_ifs, u_c, u_op, u_neg, u_test, u_and, u_or, u_not, u_if, u_nil, u_cons, u_tup, u_lst, u_callP, u_call, u_b, u_chain, u_andV, u_addI, u_subI, u_mulI, u_divI, u_modI, u_powI, u_cmpI, u_eqI, u_eqS, u_eqB, u_abs, u_intI, u_intB, u_newT, u_newF, u_isN, u_notN, wVar, List.set_cons_zero, List.set_cons_succ, List.getElem?_cons_zero, List.getElem?_cons_succ, List.length_cons, List.length_nil, u_lc, u_for, u_r1, u_r2, u_r3, u_num, u_notV, u_yes, u_w0, u_w1, u_dput, u_get2, u_dget, u_prop, u_fld, u_setF, u_make, u_makeS, u_met, u_calO, u_orT, u_tupIt, u_dc, u_maxDd, u_dnew, u_tupi, ix_p0, ix_p1, wSl, woNone, woSome]
            refine rp_go rp (by decide) (by decide) rfl (same_text ?_)
            try simp only [u_asg, u_gN, u_ret, u_retN, u_skip, u_expr, u_ifs, u_c, u_op, u_neg, u_test, u_and, u_or, u_not, u_if, u_nil, u_cons, u_tup, u_lst, u_callP, u_call, u_b, u_chain, u_andV, u_addI, u_subI, u_mulI, u_divI, u_modI, u_powI, u_cmpI, u_eqI, u_eqS, u_eqB, u_abs, u_intI, u_intB, u_newT, u_newF, u_isN, u_notN, wVar, List.set_cons_zero, List.set_cons_succ, List.getElem?_cons_zero, List.getElem?_cons_succ, List.length_cons, List.length_nil, u_lc, u_for, u_r1, u_r2, u_r3, u_num, u_notV, u_yes, u_w0, u_w1, u_dput, u_get2, u_dget, u_prop, u_fld, u_setF, u_make, u_makeS, u_met, u_calO, u_orT, u_tupIt, u_dc, u_maxDd, u_dnew, u_tupi, ix_p0, ix_p1, wSl, woNone, woSome]
            exact k3 _ _ ⟨_, _, rfl, rfl⟩
    · rintro _ g ⟨a2, a3, a4, a5, a6, a7, a8, rfl, I⟩
      exact k _ _ ⟨_, _, _, _, _, _, _, rfl⟩
  · rintro _ g ⟨a2, a3, a4, a5, a6, a7, a8, rfl⟩
    ((try dsimp only); rw [u_seq]; (try simp only [u_asg, u_gN, u_ret, u_retN, u_skip, u_expr, u_ifs, u_c, u_op, u_neg, u_test, u_and, u_or, u_not, u_if, u_nil, u_cons, u_tup, u_lst, u_callP, u_call, u_b, u_chain, u_andV, u_addI, u_subI, u_mulI, u_divI, u_modI, u_powI, u_cmpI, u_eqI, u_eqS, u_eqB, u_abs, u_intI, u_intB, u_newT, u_newF, u_isN, u_notN, wVar, List.set_cons_zero, List.set_cons_succ, List.getElem?_cons_zero, List.getElem?_cons_succ, List.length_cons, List.length_nil, u_lc, u_for, u_r1, u_r2, u_r3, u_num, u_notV, u_yes, u_w0, u_w1, u_dput, u_get2, u_dget, u_prop, u_fld, u_setF, u_make, u_makeS, u_met, u_calO, u_orT, u_tupIt, u_dc, u_maxDd, u_dnew, u_tupi, ix_p0, ix_p1, wSl, woNone, woSome]))
    refine ⟨by decide, by decide, by decide, by decide, by decide, by decide, by decide, by decide, by decide, by decide, ?_⟩
    have sl : [D.tup [D.str "write", .int 1], .tup [.str "write", .int 2000], .tup [.str "repeat", .int 0, .tup []], .tup [.str "repeat", .int 300, .tup [.tup [.str "quit"]]], .tup [.str "fork", .tup []]].all (fun y => th y && decide (dep y < 20) && actN 20 y) = true := by decide +kernel
    refine seqi_go rfl rfl fun st hst r hr => ?_
    refine comp_pure (fun y => some (.bl true)) (fun _ => hst _ (sub_up hr)) (by decide) ?_ ?_
    · intro y acc K2 hy la k2
      have hy2 := List.all_eq_true.mp sl y hy
      simp only [Bool.and_eq_true, decide_eq_true_iff] at hy2
      try simp only [u_asg, u_gN, u_ret, u_retN, u_skip, u_expr, u_ifs, u_c, u_op, u_neg, u_test, u_and, u_or, u_not, u_if, u_nil, u_cons, u_tup, u_lst, u_callP, u_call, u_b, u_chain, u_andV, u_addI, u_subI, u_mulI, u_divI, u_modI, u_powI, u_cmpI, u_eqI, u_eqS, u_eqB, u_abs, u_intI, u_intB, u_newT, u_newF, u_isN, u_notN, wVar, List.set_cons_zero, List.set_cons_succ, List.getElem?_cons_zero, List.getElem?_cons_succ, List.length_cons, List.length_nil, u_lc, u_for, u_r1, u_r2, u_r3, u_num, u_notV, u_yes, u_w0, u_w1, u_dput, u_get2, u_dget, u_prop, u_fld, u_setF, u_make, u_makeS, u_met, u_calO, u_orT, u_tupIt, u_dc, u_maxDd, u_dnew, u_tupi, ix_p0, ix_p1, wSl, woNone, woSome]
      simp only [if_true]
      refine ⟨trivial, y, rfl, hy2.1.1, hy2.1.2, acc, up_same, la, ?_⟩
      rw [hy2.2, up_up]
      exact k2
    · refine ⟨_, up_same, ?_⟩
      rw [if_neg (by decide), rm_up, rm_none hr]
      refine ⟨by decide, ⟨[.bl true], rfl, by decide, by decide, (show 5 ≤ sizeLine by decide), ?_⟩⟩
      rw [u_newF]
      have f5 : Fl (.lst [.bl true, .bl true, .bl true, .bl true, .bl true]) 1 := fl_lst fun y hy => by
        have : y = .bl true := by simpa using hy
        rw [this]; exact fl_bl _
      refine same_lst f5 (by decide) ?_
      simp only [if_true]
      have b1 : bodyN 20 (.tup []) = true := by decide +kernel
      have b2 : bodyN 20 (.lst []) = false := by decide +kernel
      refine ⟨by decide, trivial, _, rfl, by decide +kernel, by decide +kernel, ?_⟩
      rw [b1]
      simp only [dIsN]
      rw [if_pos (by decide)]
      refine ⟨by decide, trivial, _, rfl, by decide +kernel, by decide +kernel, ?_⟩
      rw [b2]
      exact q _
theorem len_law : ∀ ds h Q X, S_law ds h Q X → ds.length = 1 := fun _ _ _ _ ⟨_, e, _⟩ => by rw [e]; rfl
theorem mo_law : MoF S_law := fun _ _ _ _ _ _ hq _ ⟨a, e, o, q⟩ => ⟨a, e, o, fun h' => hq _ _ (q h')⟩
theorem law_at : ∀ js : List Int, js.length ≤ 63 → S_law [.lk (js.map D.int)] (fun _ => none) (fun d _ => d = .bl true) (fun _ _ => False) := fun js _ => ⟨js, rfl, rfl, fun _ => rfl⟩
end K02
namespace K02
open PySem PySem.Spec L2 C8 DL PyProof.Rows
/-! ### the text by places (printed by gen.py) -/
def top (i : Nat) : Stmt := PySem.Challenge.pw_forkecho_k02_actions_and_bodies.main.body.getD i (.Pass ⟨0, 0, 0, 0⟩)
abbrev s_is_integer : Stmt := top 3
abbrev s_is_between : Stmt := top 4
abbrev s_is_head : Stmt := top 16
abbrev s_inner_of : Stmt := top 17
abbrev s_is_action : Stmt := top 18
abbrev s_is_body : Stmt := top 19
abbrev s_bytes_of : Stmt := top 20
abbrev s__law_pen : Stmt := top 22
abbrev s__law_draw : Stmt := top 23
abbrev s__law_deeds : Stmt := top 24
abbrev s__law_words : Stmt := top 25
abbrev s__law_is_act : Stmt := top 26
abbrev s__law_are_acts : Stmt := top 27
abbrev s__law_odd : Stmt := top 28
abbrev s__law_bent : Stmt := top 29
abbrev s__law_right : Stmt := top 30
abbrev s_law : Stmt := top 31
theorem sc_is_integer : FnScope N_is_integer ["value"] (defScope s_is_integer) := ⟨rfl, rfl, rfl, by decide +kernel, rfl, by decide +kernel, by decide +kernel⟩
theorem sc_is_between : FnScope N_is_between ["value", "least", "most"] (defScope s_is_between) := ⟨rfl, rfl, rfl, by decide +kernel, rfl, by decide +kernel, by decide +kernel⟩
theorem sc_is_head : FnScope N_is_head ["value"] (defScope s_is_head) := ⟨rfl, rfl, rfl, by decide +kernel, rfl, by decide +kernel, by decide +kernel⟩
theorem sc_inner_of : FnScope N_inner_of ["action"] (defScope s_inner_of) := ⟨rfl, rfl, rfl, by decide +kernel, rfl, by decide +kernel, by decide +kernel⟩
theorem sc_is_action : FnScope N_is_action ["value"] (defScope s_is_action) := ⟨rfl, rfl, rfl, by decide +kernel, rfl, by decide +kernel, by decide +kernel⟩
theorem sc_is_body : FnScope N_is_body ["value"] (defScope s_is_body) := ⟨rfl, rfl, rfl, by decide +kernel, rfl, by decide +kernel, by decide +kernel⟩
theorem sc_bytes_of : FnScope N_bytes_of ["action"] (defScope s_bytes_of) := ⟨rfl, rfl, rfl, by decide +kernel, rfl, by decide +kernel, by decide +kernel⟩
theorem sc__law_pen : FnScope N__law_pen ["_law_script"] (defScope s__law_pen) := ⟨rfl, rfl, rfl, by decide +kernel, rfl, by decide +kernel, by decide +kernel⟩
theorem sc__law_draw : FnScope N__law_draw ["_law_pen_here", "_law_bound"] (defScope s__law_draw) := ⟨rfl, rfl, rfl, by decide +kernel, rfl, by decide +kernel, by decide +kernel⟩
theorem sc__law_deeds : FnScope N__law_deeds ["_law_pen_here", "_law_deep", "_law_words_here", "_law_most"] (defScope s__law_deeds) := ⟨rfl, rfl, rfl, by decide +kernel, rfl, by decide +kernel, by decide +kernel⟩
theorem sc__law_words : FnScope N__law_words ["_law_pen_here"] (defScope s__law_words) := ⟨rfl, rfl, rfl, by decide +kernel, rfl, by decide +kernel, by decide +kernel⟩
theorem sc__law_is_act : FnScope N__law_is_act ["_law_thing"] (defScope s__law_is_act) := ⟨rfl, rfl, rfl, by decide +kernel, rfl, by decide +kernel, by decide +kernel⟩
theorem sc__law_are_acts : FnScope N__law_are_acts ["_law_thing"] (defScope s__law_are_acts) := ⟨rfl, rfl, rfl, by decide +kernel, rfl, by decide +kernel, by decide +kernel⟩
theorem sc__law_odd : FnScope N__law_odd ["_law_pen_here"] (defScope s__law_odd) := ⟨rfl, rfl, rfl, by decide +kernel, rfl, by decide +kernel, by decide +kernel⟩
theorem sc__law_bent : FnScope N__law_bent ["_law_pen_here", "_law_deeds_here"] (defScope s__law_bent) := ⟨rfl, rfl, rfl, by decide +kernel, rfl, by decide +kernel, by decide +kernel⟩
theorem sc__law_right : FnScope N__law_right ["_law_thing"] (defScope s__law_right) := ⟨rfl, rfl, rfl, by decide +kernel, rfl, by decide +kernel, by decide +kernel⟩
theorem sc_law : FnScope N_law ["_law_script"] (defScope s_law) := ⟨rfl, rfl, rfl, by decide +kernel, rfl, by decide +kernel, by decide +kernel⟩
/-- what the module's names hold -/
structure Txt (K : PySem.W.Frag) (mg : Str → Option Value) : Prop where
  z_abs : mg "abs" = none
  z_all : mg "all" = none
  z_bool : mg "bool" = none
  z_int : mg "int" = none
  z_isinstance : mg "isinstance" = none
  z_len : mg "len" = none
  z_list : mg "list" = none
  z_range : mg "range" = none
  z_repr : mg "repr" = none
  z_str : mg "str" = none
  z_tuple : mg "tuple" = none
  c_BARE : Cst K mg "BARE" (.tup [(.str "line"), (.str "flush"), (.str "drop"), (.str "both"), (.str "exit"), (.str "quit")])
  c_FORK : Cst K mg "FORK" (.str "fork")
  c_LINE : Cst K mg "LINE" (.str "line")
  c_MOST_BYTES : Cst K mg "MOST_BYTES" (.int 2000)
  c_MOST_TURNS : Cst K mg "MOST_TURNS" (.int 300)
  c_REPEAT : Cst K mg "REPEAT" (.str "repeat")
  c_WRITE : Cst K mg "WRITE" (.str "write")
/-! ### the derivations -/
section
variable {P : Program} {w : World} {K : PySem.W.Frag} {mg : Str → Option Value} {base : Heap}
theorem d_is_integer (T : Txt K mg)  {f : Addr} (cdv : Value) (A : Around) (outer : List PySem.Env) (s : Shared) (H : Hp) (E : XK) (c : Cg false (cxOf (L2.CX P w) P w K mg base N_is_integer "is_integer" (defScope s_is_integer) f cdv A outer s H E) E 0) :
    ASs (cxOf (L2.CX P w) P w K mg base N_is_integer "is_integer" (defScope s_is_integer) f cdv A outer s H E) E (defBody s_is_integer) w_is_integer :=
  (ass_one (as_ret (ae_and (ae_b dIsi_ok T.z_isinstance bb_isinstance (aa_cons (ae_var 0) (aa_cons (ae_ty T.z_int bb_int) aa_nil))) (ae_one (ae_not (ae_b dIsi_ok T.z_isinstance bb_isinstance (aa_cons (ae_var 0) (aa_cons (ae_ty T.z_bool bb_bool) aa_nil))))))))
theorem d_is_between (T : Txt K mg) (C_is_integer : Cal false P w K mg base "is_integer" 1 1 [] (fun ds _ => ds) S_is_integer) {f : Addr} (cdv : Value) (A : Around) (outer : List PySem.Env) (s : Shared) (H : Hp) (E : XK) (c : Cg false (cxOf (L2.CX P w) P w K mg base N_is_between "is_between" (defScope s_is_between) f cdv A outer s H E) E 1) :
    ASs (cxOf (L2.CX P w) P w K mg base N_is_between "is_between" (defScope s_is_between) f cdv A outer s H E) E (defBody s_is_between) w_is_between :=
  (ass_one (as_ret (ae_and (ae_call c C_is_integer (by decide) (by decide) (aa_cons (ae_var 0) aa_nil)) (ae_one (ae_chain2 dCmpI_ok dCmpI_ok op_le op_le (ae_var 1) (ae_var 0) (ae_var 2))))))
theorem d_is_head (T : Txt K mg) (C_is_between : Cal false P w K mg base "is_between" 2 3 [] (fun ds _ => ds) S_is_between) {f : Addr} (cdv : Value) (A : Around) (outer : List PySem.Env) (s : Shared) (H : Hp) (E : XK) (c : Cg false (cxOf (L2.CX P w) P w K mg base N_is_head "is_head" (defScope s_is_head) f cdv A outer s H E) E 2) :
    ASs (cxOf (L2.CX P w) P w K mg base N_is_head "is_head" (defScope s_is_head) f cdv A outer s H E) E (defBody s_is_head) w_is_head :=
  (ass_cons (as_if (AW.at (aw_or (at_not (at_val (ae_b dIsi_ok T.z_isinstance bb_isinstance (aa_cons (ae_var 0) (aa_cons (ae_ty T.z_tuple bb_tuple) aa_nil))))) (aw_or (at_eq c (ae_b dLen_ok T.z_len bb_len (aa_cons (ae_var 0) aa_nil)) ae_int) (aw_or1 (at_not (at_val (ae_b dIsi_ok T.z_isinstance bb_isinstance (aa_cons (ae_ix (ae_var 0) ae_int) (aa_cons (ae_ty T.z_str bb_str) aa_nil))))))))) (ass_one (as_ret ae_bl)) ass_nil)
    (ass_cons (as_asg (ae_var 0) (ag_starT c.calm (ags_cons (ag_name 1 c.nd) (ags_star (ag_name 2 c.nd) ags_nil))))
    (ass_cons (as_if (at_in (ae_var 1) (ae_glob T.c_BARE)) (ass_one (as_ret (ae_eq c (ae_b dLen_ok T.z_len bb_len (aa_cons (ae_var 2) aa_nil)) ae_int))) ass_nil)
    (ass_cons (as_if (at_eq c (ae_var 1) (ae_glob T.c_WRITE)) (ass_one (as_ret (ae_and (ae_eq c (ae_b dLen_ok T.z_len bb_len (aa_cons (ae_var 2) aa_nil)) ae_int) (ae_one (ae_call c C_is_between (by decide) (by decide) (aa_cons (ae_ix (ae_var 2) ae_int) (aa_cons ae_int (aa_cons (ae_glob T.c_MOST_BYTES) aa_nil)))))))) ass_nil)
    (ass_cons (as_if (at_eq c (ae_var 1) (ae_glob T.c_FORK)) (ass_one (as_ret (ae_and (ae_eq c (ae_b dLen_ok T.z_len bb_len (aa_cons (ae_var 2) aa_nil)) ae_int) (ae_one (ae_b dIsi_ok T.z_isinstance bb_isinstance (aa_cons (ae_ix (ae_var 2) ae_int) (aa_cons (ae_ty T.z_tuple bb_tuple) aa_nil))))))) ass_nil)
    (ass_one (as_ret (ae_and (ae_eq c (ae_var 1) (ae_glob T.c_REPEAT)) (ae_and (ae_eq c (ae_b dLen_ok T.z_len bb_len (aa_cons (ae_var 2) aa_nil)) ae_int) (ae_and (ae_call c C_is_between (by decide) (by decide) (aa_cons (ae_ix (ae_var 2) ae_int) (aa_cons ae_int (aa_cons (ae_glob T.c_MOST_TURNS) aa_nil)))) (ae_one (ae_b dIsi_ok T.z_isinstance bb_isinstance (aa_cons (ae_ix (ae_var 2) ae_int) (aa_cons (ae_ty T.z_tuple bb_tuple) aa_nil))))))))))))))
theorem d_inner_of (T : Txt K mg)  {f : Addr} (cdv : Value) (A : Around) (outer : List PySem.Env) (s : Shared) (H : Hp) (E : XK) (c : Cg false (cxOf (L2.CX P w) P w K mg base N_inner_of "inner_of" (defScope s_inner_of) f cdv A outer s H E) E 0) :
    ASs (cxOf (L2.CX P w) P w K mg base N_inner_of "inner_of" (defScope s_inner_of) f cdv A outer s H E) E (defBody s_inner_of) w_inner_of :=
  (ass_one (as_ret (ae_if (at_in (ae_ix (ae_var 0) ae_int) (ae_tup (aa_cons (ae_glob T.c_FORK) (aa_cons (ae_glob T.c_REPEAT) aa_nil)))) (ae_ix (ae_var 0) (ae_neg ae_int)) (ae_tup aa_nil))))
theorem d_is_action (T : Txt K mg) (n : Nat) (C_inner_of : Cal false P w K mg base "inner_of" 1 1 [] (fun ds _ => ds) S_inner_of) (C_is_body : Cal false P w K mg base "is_body" (3 + n) 1 [] (fun ds _ => ds) (S_is_body n)) (C_is_head : Cal false P w K mg base "is_head" 3 1 [] (fun ds _ => ds) S_is_head) {f : Addr} (cdv : Value) (A : Around) (outer : List PySem.Env) (s : Shared) (H : Hp) (E : XK) (c : Cg false (cxOf (L2.CX P w) P w K mg base N_is_action "is_action" (defScope s_is_action) f cdv A outer s H E) E (3 + n)) :
    ASs (cxOf (L2.CX P w) P w K mg base N_is_action "is_action" (defScope s_is_action) f cdv A outer s H E) E (defBody s_is_action) (w_is_action n) :=
  (ass_one (as_ret (ae_and (ae_call c C_is_head (by omega) (by decide) (aa_cons (ae_var 0) aa_nil)) (ae_one (ae_call c C_is_body (by omega) (by decide) (aa_cons (ae_call c C_inner_of (by omega) (by decide) (aa_cons (ae_var 0) aa_nil)) aa_nil))))))
theorem d_is_body (T : Txt K mg) (n : Nat) (C_is_action : Cal false P w K mg base "is_action" (3 + n) 1 [] (fun ds _ => ds) (S_is_action n)) {f : Addr} (cdv : Value) (A : Around) (outer : List PySem.Env) (s : Shared) (H : Hp) (E : XK) (c : Cg false (cxOf (L2.CX P w) P w K mg base N_is_body "is_body" (defScope s_is_body) f cdv A outer s H E) E (3 + n)) :
    ASs (cxOf (L2.CX P w) P w K mg base N_is_body "is_body" (defScope s_is_body) f cdv A outer s H E) E (defBody s_is_body) (w_is_body n) :=
  (ass_one (as_ret (ae_and (ae_b dIsi_ok T.z_isinstance bb_isinstance (aa_cons (ae_var 0) (aa_cons (ae_ty T.z_tuple bb_tuple) aa_nil))) (ae_one (ae_b (dAll_ok c.calm) T.z_all bb_all (aa_cons (ae_lc false (own := [("action", 1)]) c (ai_tup (ae_var 0)) (show BlkOk N_is_body (defScope s_is_body) _ [("action", 1)] from ⟨rfl, by decide +kernel, by decide +kernel, by decide +kernel, by decide +kernel⟩) (gw_name (i := 1) (by decide)) (fun s H C cl fp => pg_name (i := 1) c.nd rfl (by first | exact Or.inl rfl | exact Or.inr rfl)) (fun s H C cl fp c => ats_nil) (fun s H C cl fp c => (ae_call c C_is_action (by omega) (by decide) (aa_cons (ae_var 1) aa_nil)))) aa_nil))))))
theorem d_bytes_of (T : Txt K mg)  {f : Addr} (cdv : Value) (A : Around) (outer : List PySem.Env) (s : Shared) (H : Hp) (E : XK) (c : Cg false (cxOf (L2.CX P w) P w K mg base N_bytes_of "bytes_of" (defScope s_bytes_of) f cdv A outer s H E) E 0) :
    ASs (cxOf (L2.CX P w) P w K mg base N_bytes_of "bytes_of" (defScope s_bytes_of) f cdv A outer s H E) E (defBody s_bytes_of) w_bytes_of :=
  (ass_cons (as_if (at_eq c (ae_ix (ae_var 0) ae_int) (ae_glob T.c_WRITE)) (ass_one (as_ret (ae_ix (ae_var 0) ae_int))) ass_nil)
    (ass_one (as_ret (ae_if (at_eq c (ae_ix (ae_var 0) ae_int) (ae_glob T.c_LINE)) ae_int ae_int))))
theorem d__law_pen (T : Txt K mg)  {f : Addr} (cdv : Value) (A : Around) (outer : List PySem.Env) (s : Shared) (H : Hp) (E : XK) (c : Cg false (cxOf (L2.CX P w) P w K mg base N__law_pen "_law_pen" (defScope s__law_pen) f cdv A outer s H E) E 0) :
    ASs (cxOf (L2.CX P w) P w K mg base N__law_pen "_law_pen" (defScope s__law_pen) f cdv A outer s H E) E (defBody s__law_pen) w__law_pen :=
  (ass_one (as_ret (ae_lst true (aa_cons (ae_bt (dListOf_ok (m := false)) T.z_list bb_list (aa_cons (ae_sl false (ae_var 0) ao_none (ao_some ae_int)) aa_nil)) (aa_cons ae_int (aa_cons ae_int aa_nil))))))
theorem d__law_draw (T : Txt K mg)  {f : Addr} (cdv : Value) (A : Around) (outer : List PySem.Env) (s : Shared) (H : Hp) (E : XK) (c : Cg false (cxOf (L2.CX P w) P w K mg base N__law_draw "_law_draw" (defScope s__law_draw) f cdv A outer s H E) E 0) :
    ASs (cxOf (L2.CX P w) P w K mg base N__law_draw "_law_draw" (defScope s__law_draw) f cdv A outer s H E) E (defBody s__law_draw) w__law_draw :=
  (ass_cons (as_if (at_gt (ae_ix (ae_var 0) ae_int) ae_int) (ass_cons (as_set 2 c.nd (ae_mod (ae_ix (ae_var 0) ae_int) (ae_var 1)))
    (ass_cons (as_asg (ae_div (ae_ix (ae_var 0) ae_int) (ae_var 1)) (ag_subL (ae_var 0) ae_int (fun _ => rfl)))
    (ass_one (as_ret (ae_var 2))))) ass_nil)
    (ass_cons (as_set 3 c.nd (ae_ix (ae_var 0) ae_int))
    (ass_cons (as_asg (ae_add false (ae_var 3) ae_int) (ag_subL (ae_var 0) ae_int (fun _ => rfl)))
    (ass_cons (as_set 4 c.nd (ae_add false (ae_mul false ae_int (ae_var 3)) ae_int))
    (ass_cons (as_if (at_ne c (ae_ix (ae_var 0) ae_int) (ae_lst false aa_nil)) (ass_one (as_set 4 c.nd (ae_ix (ae_ix (ae_var 0) ae_int) (ae_mod (ae_var 3) (ae_b dLen_ok T.z_len bb_len (aa_cons (ae_ix (ae_var 0) ae_int) aa_nil)))))) ass_nil)
    (ass_cons (as_if (AW.at (aw_and (at_lt (ae_var 3) (ae_b dLen_ok T.z_len bb_len (aa_cons (ae_ix (ae_var 0) ae_int) aa_nil))) (aw_and1 (at_ge (ae_b dAbs_ok T.z_abs bb_abs (aa_cons (ae_var 4) aa_nil)) (ae_pow ae_int ae_int))))) (ass_cons (as_set 5 c.nd (ae_add false (ae_mul false ae_int (ae_b dAbs_ok T.z_abs bb_abs (aa_cons (ae_var 4) aa_nil))) (ae_bt dInt_ok T.z_int bb_int (aa_cons (ae_lt (ae_var 4) ae_int) aa_nil))))
    (ass_cons (as_asg (ae_div (ae_var 5) (ae_var 1)) (ag_subL (ae_var 0) ae_int (fun _ => rfl)))
    (ass_one (as_ret (ae_mod (ae_var 5) (ae_var 1)))))) ass_nil)
    (ass_cons (as_set 6 c.nd (ae_mod (ae_pow (ae_add false (ae_add false (ae_mod (ae_var 4) ae_int) (ae_mul false ae_int (ae_var 3))) ae_int) ae_int) ae_int))
    (ass_cons (as_set 6 c.nd (ae_mod (ae_pow (ae_add false (ae_mul false (ae_var 6) (ae_add false (ae_mul false ae_int (ae_var 3)) ae_int)) ae_int) ae_int) ae_int))
    (ass_one (as_ret (ae_mod (ae_div (ae_var 6) ae_int) (ae_var 1))))))))))))
theorem d__law_deeds (T : Txt K mg) (n : Nat) (C__law_deeds : Cal false P w K mg base "_law_deeds" (1 + n) 4 [] (fun ds _ => ds) (S__law_deeds n)) (C__law_draw : Cal false P w K mg base "_law_draw" 1 2 [] (fun ds _ => ds) S__law_draw) {f : Addr} (cdv : Value) (A : Around) (outer : List PySem.Env) (s : Shared) (H : Hp) (E : XK) (c : Cg false (cxOf (L2.CX P w) P w K mg base N__law_deeds "_law_deeds" (defScope s__law_deeds) f cdv A outer s H E) E (1 + n)) :
    ASs (cxOf (L2.CX P w) P w K mg base N__law_deeds "_law_deeds" (defScope s__law_deeds) f cdv A outer s H E) E (defBody s__law_deeds) (w__law_deeds n) :=
  (ass_cons (as_set 4 c.nd (ae_lst true aa_nil))
    (ass_cons (as_for c (ai_rng1 T.z_range (aa_cons (ae_call c C__law_draw (by omega) (by decide) (aa_cons (ae_var 0) (aa_cons (ae_add false (ae_var 3) ae_int) aa_nil))) aa_nil)) (ag_name 5 c.nd) (ass_cons (as_set 6 c.nd (ae_ix (ae_var 2) (ae_call c C__law_draw (by omega) (by decide) (aa_cons (ae_var 0) (aa_cons (ae_b dLen_ok T.z_len bb_len (aa_cons (ae_var 2) aa_nil)) aa_nil)))))
    (ass_one (as_if (at_eq c (ae_var 6) ae_str) (ass_one (as_expr (ae_append (ae_var 4) (aa_cons (ae_tup (aa_cons (ae_var 6) (aa_cons (ae_ix (ae_lst false (aa_cons ae_int (aa_cons ae_int (aa_cons ae_int (aa_cons ae_int (aa_cons ae_int (aa_cons (ae_add false ae_int (ae_call c C__law_draw (by omega) (by decide) (aa_cons (ae_var 0) (aa_cons ae_int aa_nil)))) aa_nil))))))) (ae_call c C__law_draw (by omega) (by decide) (aa_cons (ae_var 0) (aa_cons ae_int aa_nil)))) aa_nil))) aa_nil)))) (ass_one (as_if (at_eq c (ae_var 6) ae_str) (ass_one (as_expr (ae_append (ae_var 4) (aa_cons (ae_tup (aa_cons (ae_var 6) (aa_cons (ae_if (at_gt (ae_var 1) ae_int) (ae_call c C__law_deeds (by omega) (by decide) (aa_cons (ae_var 0) (aa_cons (ae_sub (ae_var 1) ae_int) (aa_cons (ae_var 2) (aa_cons ae_int aa_nil))))) (ae_tup aa_nil)) aa_nil))) aa_nil)))) (ass_one (as_if (at_eq c (ae_var 6) ae_str) (ass_cons (as_set 7 c.nd (ae_if (at_gt (ae_var 1) ae_int) (ae_call c C__law_deeds (by omega) (by decide) (aa_cons (ae_var 0) (aa_cons (ae_sub (ae_var 1) ae_int) (aa_cons (ae_var 2) (aa_cons ae_int aa_nil))))) (ae_tup (aa_cons (ae_tup (aa_cons ae_str aa_nil)) aa_nil))))
    (ass_one (as_expr (ae_append (ae_var 4) (aa_cons (ae_tup (aa_cons (ae_var 6) (aa_cons (ae_ix (ae_lst false (aa_cons ae_int (aa_cons ae_int (aa_cons ae_int (aa_cons ae_int aa_nil))))) (ae_call c C__law_draw (by omega) (by decide) (aa_cons (ae_var 0) (aa_cons ae_int aa_nil)))) (aa_cons (ae_var 7) aa_nil)))) aa_nil))))) (ass_one (as_expr (ae_append (ae_var 4) (aa_cons (ae_tup (aa_cons (ae_var 6) aa_nil)) aa_nil))))))))))))
    (ass_one (as_ret (ae_bt dTupOf_ok T.z_tuple bb_tuple (aa_cons (ae_var 4) aa_nil))))))
theorem d__law_words (T : Txt K mg) (C__law_draw : Cal false P w K mg base "_law_draw" 1 2 [] (fun ds _ => ds) S__law_draw) {f : Addr} (cdv : Value) (A : Around) (outer : List PySem.Env) (s : Shared) (H : Hp) (E : XK) (c : Cg false (cxOf (L2.CX P w) P w K mg base N__law_words "_law_words" (defScope s__law_words) f cdv A outer s H E) E 1) :
    ASs (cxOf (L2.CX P w) P w K mg base N__law_words "_law_words" (defScope s__law_words) f cdv A outer s H E) E (defBody s__law_words) w__law_words :=
  (ass_cons (as_set 1 c.nd (ae_lst true (aa_cons (ae_lst false (aa_cons ae_str (aa_cons ae_str (aa_cons ae_str (aa_cons ae_str (aa_cons ae_str aa_nil)))))) (aa_cons (ae_lst false (aa_cons ae_str (aa_cons ae_str (aa_cons ae_str (aa_cons ae_str aa_nil))))) (aa_cons (ae_lst false (aa_cons ae_str (aa_cons ae_str (aa_cons ae_str aa_nil)))) (aa_cons (ae_lst false (aa_cons ae_str (aa_cons ae_str (aa_cons ae_str (aa_cons ae_str aa_nil))))) (aa_cons (ae_lst false (aa_cons ae_str (aa_cons ae_str (aa_cons ae_str (aa_cons ae_str aa_nil))))) (aa_cons (ae_lst false (aa_cons ae_str (aa_cons ae_str (aa_cons ae_str (aa_cons ae_str aa_nil))))) aa_nil))))))))
    (ass_cons (as_expr (ae_append (ae_var 1) (aa_cons (ae_lst false (aa_cons ae_str (aa_cons ae_str (aa_cons ae_str (aa_cons ae_str (aa_cons ae_str (aa_cons ae_str (aa_cons ae_str (aa_cons ae_str (aa_cons ae_str (aa_cons ae_str (aa_cons ae_str aa_nil)))))))))))) aa_nil)))
    (ass_one (as_ret (ae_ix (ae_var 1) (ae_call c C__law_draw (by decide) (by decide) (aa_cons (ae_var 0) (aa_cons ae_int aa_nil))))))))
theorem d__law_is_act (T : Txt K mg) (n : Nat) (C__law_are_acts : Cal false P w K mg base "_law_are_acts" (0 + n) 1 [] (fun ds _ => ds) (S__law_are_acts n)) {f : Addr} (cdv : Value) (A : Around) (outer : List PySem.Env) (s : Shared) (H : Hp) (E : XK) (c : Cg false (cxOf (L2.CX P w) P w K mg base N__law_is_act "_law_is_act" (defScope s__law_is_act) f cdv A outer s H E) E (0 + n)) :
    ASs (cxOf (L2.CX P w) P w K mg base N__law_is_act "_law_is_act" (defScope s__law_is_act) f cdv A outer s H E) E (defBody s__law_is_act) (w__law_is_act n) :=
  (ass_cons (as_if (AW.at (aw_or (at_not (at_val (ae_b dIsi_ok T.z_isinstance bb_isinstance (aa_cons (ae_var 0) (aa_cons (ae_ty T.z_tuple bb_tuple) aa_nil))))) (aw_or (at_eqE c (ae_var 0) (ae_tup aa_nil)) (aw_or1 (at_not (at_val (ae_b dIsi_ok T.z_isinstance bb_isinstance (aa_cons (ae_ix (ae_var 0) ae_int) (aa_cons (ae_ty T.z_str bb_str) aa_nil))))))))) (ass_one (as_ret ae_bl)) ass_nil)
    (ass_cons (as_if (at_in (ae_ix (ae_var 0) ae_int) (ae_tup (aa_cons ae_str (aa_cons ae_str (aa_cons ae_str (aa_cons ae_str (aa_cons ae_str (aa_cons ae_str aa_nil)))))))) (ass_one (as_ret (ae_eq c (ae_b dLen_ok T.z_len bb_len (aa_cons (ae_var 0) aa_nil)) ae_int))) ass_nil)
    (ass_cons (as_if (at_eq c (ae_ix (ae_var 0) ae_int) ae_str) (ass_one (as_ret (ae_and (ae_eq c (ae_b dLen_ok T.z_len bb_len (aa_cons (ae_var 0) aa_nil)) ae_int) (ae_one (ae_call c C__law_are_acts (by omega) (by decide) (aa_cons (ae_ix (ae_var 0) ae_int) aa_nil)))))) ass_nil)
    (ass_cons (as_asg (ae_get2 c (ae_disp (aps_cons ae_str (ae_tup (aa_cons ae_int (aa_cons ae_int aa_nil))) (aps_cons ae_str (ae_tup (aa_cons ae_int (aa_cons ae_int aa_nil))) aps_nil))) (ae_ix (ae_var 0) ae_int) (ae_tup (aa_cons ae_int (aa_cons ae_int aa_nil))) ⟨rfl, rfl, rfl, rfl⟩) (ag_tup c.calm (ags_cons (ag_name 1 c.nd) (ags_cons (ag_name 2 c.nd) ags_nil))))
    (ass_cons (as_if (AW.at (aw_or (at_ne c (ae_b dLen_ok T.z_len bb_len (aa_cons (ae_var 0) aa_nil)) (ae_var 2)) (aw_or (at_not (at_val (ae_b dIsi_ok T.z_isinstance bb_isinstance (aa_cons (ae_ix (ae_var 0) ae_int) (aa_cons (ae_ty T.z_int bb_int) aa_nil))))) (aw_or1 (at_val (ae_b dIsi_ok T.z_isinstance bb_isinstance (aa_cons (ae_ix (ae_var 0) ae_int) (aa_cons (ae_ty T.z_bool bb_bool) aa_nil)))))))) (ass_one (as_ret ae_bl)) ass_nil)
    (ass_cons (as_set 3 c.nd (ae_ix (ae_lst false (aa_cons ae_int (aa_cons ae_int aa_nil))) (ae_var 1)))
    (ass_one (as_ret (ae_and (ae_chain2 dCmpI_ok dCmpI_ok op_le op_le (ae_var 1) (ae_ix (ae_var 0) ae_int) (ae_var 3)) (ae_one (ae_or (ae_eq c (ae_var 2) ae_int) (ae_one (ae_call c C__law_are_acts (by omega) (by decide) (aa_cons (ae_ix (ae_var 0) ae_int) aa_nil))))))))))))))
theorem d__law_are_acts (T : Txt K mg) (n : Nat) (C__law_is_act : Cal false P w K mg base "_law_is_act" (0 + n) 1 [] (fun ds _ => ds) (S__law_is_act n)) {f : Addr} (cdv : Value) (A : Around) (outer : List PySem.Env) (s : Shared) (H : Hp) (E : XK) (c : Cg false (cxOf (L2.CX P w) P w K mg base N__law_are_acts "_law_are_acts" (defScope s__law_are_acts) f cdv A outer s H E) E (0 + n)) :
    ASs (cxOf (L2.CX P w) P w K mg base N__law_are_acts "_law_are_acts" (defScope s__law_are_acts) f cdv A outer s H E) E (defBody s__law_are_acts) (w__law_are_acts n) :=
  (ass_one (as_ret (ae_and (ae_b dIsi_ok T.z_isinstance bb_isinstance (aa_cons (ae_var 0) (aa_cons (ae_ty T.z_tuple bb_tuple) aa_nil))) (ae_one (ae_eqE c (ae_lc false (own := [("_law_act", 1)]) c (ai_tup (ae_var 0)) (show BlkOk N__law_are_acts (defScope s__law_are_acts) _ [("_law_act", 1)] from ⟨rfl, by decide +kernel, by decide +kernel, by decide +kernel, by decide +kernel⟩) (gw_name (i := 1) (by decide)) (fun s H C cl fp => pg_name (i := 1) c.nd rfl (by first | exact Or.inl rfl | exact Or.inr rfl)) (fun s H C cl fp c => ats_one (at_not (at_val (ae_call c C__law_is_act (by omega) (by decide) (aa_cons (ae_var 1) aa_nil))))) (fun s H C cl fp c => (ae_var 1))) (ae_lst false aa_nil))))))
theorem d__law_odd (T : Txt K mg) (C__law_draw : Cal false P w K mg base "_law_draw" 1 2 [] (fun ds _ => ds) S__law_draw) {f : Addr} (cdv : Value) (A : Around) (outer : List PySem.Env) (s : Shared) (H : Hp) (E : XK) (c : Cg false (cxOf (L2.CX P w) P w K mg base N__law_odd "_law_odd" (defScope s__law_odd) f cdv A outer s H E) E 1) :
    ASs (cxOf (L2.CX P w) P w K mg base N__law_odd "_law_odd" (defScope s__law_odd) f cdv A outer s H E) E (defBody s__law_odd) w__law_odd :=
  (ass_cons (as_set 1 c.nd (ae_lst false (aa_cons ae_non (aa_cons ae_bl (aa_cons ae_int (aa_cons ae_str (aa_cons ae_str (aa_cons (ae_tup aa_nil) (aa_cons (ae_lst false aa_nil) (aa_cons ae_dnewF (aa_cons (ae_tup (aa_cons ae_str (aa_cons ae_int aa_nil))) (aa_cons (ae_tup (aa_cons ae_str (aa_cons ae_int aa_nil))) (aa_cons (ae_tup (aa_cons ae_str (aa_cons ae_bl aa_nil))) (aa_cons (ae_tup (aa_cons ae_str aa_nil)) aa_nil))))))))))))))
    (ass_cons (as_set 1 c.nd (ae_add false (ae_var 1) (ae_lst false (aa_cons (ae_tup (aa_cons ae_str (aa_cons ae_int aa_nil))) (aa_cons (ae_tup (aa_cons ae_str aa_nil)) (aa_cons (ae_tup (aa_cons ae_str (aa_cons (ae_lst false aa_nil) aa_nil))) (aa_cons (ae_tup (aa_cons ae_str (aa_cons ae_non aa_nil))) (aa_cons (ae_tup (aa_cons ae_str (aa_cons ae_int aa_nil))) (aa_cons (ae_tup (aa_cons ae_str (aa_cons (ae_neg ae_int) (aa_cons (ae_tup aa_nil) aa_nil)))) aa_nil)))))))))
    (ass_cons (as_set 1 c.nd (ae_add false (ae_var 1) (ae_lst false (aa_cons (ae_tup (aa_cons ae_str (aa_cons ae_int (aa_cons (ae_tup aa_nil) aa_nil)))) (aa_cons (ae_tup (aa_cons ae_str (aa_cons ae_bl (aa_cons (ae_tup aa_nil) aa_nil)))) (aa_cons (ae_tup (aa_cons ae_str (aa_cons ae_int (aa_cons (ae_lst false (aa_cons (ae_tup (aa_cons ae_str aa_nil)) aa_nil)) aa_nil)))) (aa_cons (ae_tup (aa_cons ae_str aa_nil)) (aa_cons (ae_lst false (aa_cons ae_str aa_nil)) aa_nil))))))))
    (ass_cons (as_set 1 c.nd (ae_add false (ae_var 1) (ae_lst false (aa_cons (ae_tup (aa_cons ae_str (aa_cons ae_str aa_nil))) (aa_cons (ae_tup (aa_cons ae_str (aa_cons ae_int aa_nil))) (aa_cons (ae_tup (aa_cons ae_str (aa_cons ae_int (aa_cons (ae_tup aa_nil) aa_nil)))) (aa_cons (ae_tup (aa_cons (ae_tup (aa_cons ae_str aa_nil)) aa_nil)) (aa_cons (ae_tup (aa_cons ae_str (aa_cons (ae_tup aa_nil) aa_nil))) (aa_cons (ae_tup (aa_cons ae_str (aa_cons (ae_tup aa_nil) (aa_cons (ae_tup aa_nil) aa_nil)))) aa_nil)))))))))
    (ass_one (as_ret (ae_ix (ae_var 1) (ae_call c C__law_draw (by decide) (by decide) (aa_cons (ae_var 0) (aa_cons ae_int aa_nil))))))))))
theorem d__law_bent (T : Txt K mg) (n : Nat) (C__law_bent : Cal false P w K mg base "_law_bent" (2 + n) 2 [] (fun ds _ => ds) (S__law_bent n)) (C__law_draw : Cal false P w K mg base "_law_draw" 1 2 [] (fun ds _ => ds) S__law_draw) (C__law_odd : Cal false P w K mg base "_law_odd" 2 1 [] (fun ds _ => ds) S__law_odd) {f : Addr} (cdv : Value) (A : Around) (outer : List PySem.Env) (s : Shared) (H : Hp) (E : XK) (c : Cg false (cxOf (L2.CX P w) P w K mg base N__law_bent "_law_bent" (defScope s__law_bent) f cdv A outer s H E) E (2 + n)) :
    ASs (cxOf (L2.CX P w) P w K mg base N__law_bent "_law_bent" (defScope s__law_bent) f cdv A outer s H E) E (defBody s__law_bent) (w__law_bent n) :=
  (ass_cons (as_set 2 c.nd (ae_call c C__law_draw (by omega) (by decide) (aa_cons (ae_var 0) (aa_cons (ae_add false (ae_b dLen_ok T.z_len bb_len (aa_cons (ae_var 1) aa_nil)) ae_int) aa_nil))))
    (ass_cons (as_set 3 c.nd (ae_call c C__law_draw (by omega) (by decide) (aa_cons (ae_var 0) (aa_cons ae_int aa_nil))))
    (ass_cons (as_if (AW.at (aw_and (at_lt (ae_var 3) ae_int) (aw_and (at_lt (ae_var 2) (ae_b dLen_ok T.z_len bb_len (aa_cons (ae_var 1) aa_nil))) (aw_and1 (at_in (ae_ix (ae_ix (ae_var 1) (ae_var 2)) ae_int) (ae_tup (aa_cons ae_str (aa_cons ae_str aa_nil)))))))) (ass_cons (as_set 4 c.nd (ae_add false (ae_sl false (ae_ix (ae_var 1) (ae_var 2)) ao_none (ao_some (ae_neg ae_int))) (ae_tup (aa_cons (ae_call c C__law_bent (by omega) (by decide) (aa_cons (ae_var 0) (aa_cons (ae_ix (ae_ix (ae_var 1) (ae_var 2)) (ae_neg ae_int)) aa_nil))) aa_nil))))
    (ass_one (as_ret (ae_add false (ae_add false (ae_sl false (ae_var 1) ao_none (ao_some (ae_var 2))) (ae_tup (aa_cons (ae_var 4) aa_nil))) (ae_sl false (ae_var 1) (ao_some (ae_add false (ae_var 2) ae_int)) ao_none))))) ass_nil)
    (ass_cons (as_if (at_eq c (ae_var 3) ae_int) (ass_one (as_ret (ae_bt (dListOf_ok (m := false)) T.z_list bb_list (aa_cons (ae_var 1) aa_nil)))) ass_nil)
    (ass_one (as_ret (ae_add false (ae_add false (ae_sl false (ae_var 1) ao_none (ao_some (ae_var 2))) (ae_tup (aa_cons (ae_call c C__law_odd (by omega) (by decide) (aa_cons (ae_var 0) aa_nil)) aa_nil))) (ae_sl false (ae_var 1) (ao_some (ae_add false (ae_var 2) (ae_mod (ae_var 3) ae_int))) ao_none))))))))
theorem d__law_right (T : Txt K mg) (C__law_are_acts : Cal false P w K mg base "_law_are_acts" 20 1 [] (fun ds _ => ds) (S__law_are_acts 20)) (C__law_is_act : Cal false P w K mg base "_law_is_act" 20 1 [] (fun ds _ => ds) (S__law_is_act 20)) (C_is_action_k_value : Cal false P w K mg base "is_action" 23 0 ["value"] (pickD [0]) (S_is_action 20)) (C_is_action : Cal false P w K mg base "is_action" 23 1 [] (fun ds _ => ds) (S_is_action 20)) (C_is_body_k_value : Cal false P w K mg base "is_body" 23 0 ["value"] (pickD [0]) (S_is_body 20)) (C_is_body : Cal false P w K mg base "is_body" 23 1 [] (fun ds _ => ds) (S_is_body 20)) {f : Addr} (cdv : Value) (A : Around) (outer : List PySem.Env) (s : Shared) (H : Hp) (E : XK) (c : Cg true (cxOf (L2.CX P w) P w K mg base N__law_right "_law_right" (defScope s__law_right) f cdv A outer s H E) E 23) :
    ASs (cxOf (L2.CX P w) P w K mg base N__law_right "_law_right" (defScope s__law_right) f cdv A outer s H E) E (defBody s__law_right) w__law_right :=
  (ass_cons (as_set 1 c.nd (ae_b (dReprQ_ok (c.gd rfl) c.room.units) T.z_repr bb_repr (aa_cons (ae_var 0) aa_nil)))
    (ass_cons (as_set 2 c.nd (ae_b (dReprQ_ok (c.gd rfl) c.room.units) T.z_repr bb_repr (aa_cons (ae_mul false (ae_lst false (aa_cons (ae_call c C__law_is_act (by decide) (by decide) (aa_cons (ae_var 0) aa_nil)) (aa_cons (ae_call c C__law_are_acts (by decide) (by decide) (aa_cons (ae_var 0) aa_nil)) aa_nil))) ae_int) aa_nil)))
    (ass_cons (as_set 3 c.nd (ae_lst false (aa_cons (ae_call c C_is_action (by decide) (by decide) (aa_cons (ae_var 0) aa_nil)) (aa_cons (ae_call c C_is_body (by decide) (by decide) (aa_cons (ae_var 0) aa_nil)) (aa_cons (ae_callK0 c C_is_action_k_value (by decide) (by decide) (ak_cons (ae_var 0) ak_nil)) (aa_cons (ae_callK0 c C_is_body_k_value (by decide) (by decide) (ak_cons (ae_var 0) ak_nil)) aa_nil))))))
    (ass_one (as_ret (ae_and (ae_eq c (ae_b (dReprQ_ok (c.gd rfl) c.room.units) T.z_repr bb_repr (aa_cons (ae_var 3) aa_nil)) (ae_var 2)) (ae_one (ae_eq c (ae_b (dReprQ_ok (c.gd rfl) c.room.units) T.z_repr bb_repr (aa_cons (ae_var 0) aa_nil)) (ae_var 1)))))))))
theorem d_law (T : Txt K mg) (C__law_bent : Cal false P w K mg base "_law_bent" 22 2 [] (fun ds _ => ds) (S__law_bent 20)) (C__law_deeds : Cal false P w K mg base "_law_deeds" 21 4 [] (fun ds _ => ds) (S__law_deeds 20)) (C__law_is_act : Cal false P w K mg base "_law_is_act" 20 1 [] (fun ds _ => ds) (S__law_is_act 20)) (C__law_odd : Cal false P w K mg base "_law_odd" 2 1 [] (fun ds _ => ds) S__law_odd) (C__law_pen : Cal false P w K mg base "_law_pen" 1 1 [] (fun ds _ => ds) S__law_pen) (C__law_right : Cal true P w K mg base "_law_right" 24 1 [] (fun ds _ => ds) S__law_right) (C__law_words : Cal false P w K mg base "_law_words" 2 1 [] (fun ds _ => ds) S__law_words) (C_bytes_of_k_action : Cal false P w K mg base "bytes_of" 1 0 ["action"] (pickD [0]) S_bytes_of) (C_bytes_of : Cal false P w K mg base "bytes_of" 1 1 [] (fun ds _ => ds) S_bytes_of) (C_is_action : Cal false P w K mg base "is_action" 23 1 [] (fun ds _ => ds) (S_is_action 20)) (C_is_body : Cal false P w K mg base "is_body" 23 1 [] (fun ds _ => ds) (S_is_body 20)) {f : Addr} (cdv : Value) (A : Around) (outer : List PySem.Env) (s : Shared) (H : Hp) (E : XK) (c : Cg true (cxOf (L2.CX P w) P w K mg base N_law "law" (defScope s_law) f cdv A outer s H E) E 24) :
    ASs (cxOf (L2.CX P w) P w K mg base N_law "law" (defScope s_law) f cdv A outer s H E) E (defBody s_law) w_law :=
  (ass_cons (as_set 1 c.nd (ae_call c C__law_pen (by decide) (by decide) (aa_cons (ae_var 0) aa_nil)))
    (ass_cons (as_for c (ai_rng1 T.z_range (aa_cons ae_int aa_nil)) (ag_name 2 c.nd) (ass_cons (as_set 3 c.nd (ae_call c C__law_deeds (by decide) (by decide) (aa_cons (ae_var 1) (aa_cons ae_int (aa_cons (ae_call c C__law_words (by decide) (by decide) (aa_cons (ae_var 1) aa_nil)) (aa_cons ae_int aa_nil))))))
    (ass_cons (as_set 4 c.nd (ae_call c C__law_bent (by decide) (by decide) (aa_cons (ae_var 1) (aa_cons (ae_var 3) aa_nil))))
    (ass_cons (as_set 5 c.nd (ae_add true (ae_add false (ae_lst false (aa_cons (ae_var 3) (aa_cons (ae_var 4) (aa_cons (ae_call c C__law_odd (by decide) (by decide) (aa_cons (ae_var 1) aa_nil)) (aa_cons (ae_tup (aa_cons (ae_var 3) aa_nil)) aa_nil))))) (ae_bt (dListOf_ok (m := false)) T.z_list bb_list (aa_cons (ae_var 3) aa_nil))) (ae_bt (dListOf_ok (m := false)) T.z_list bb_list (aa_cons (ae_var 4) aa_nil))))
    (ass_cons (as_if (at_val (ae_b dIsi_ok T.z_isinstance bb_isinstance (aa_cons (ae_var 4) (aa_cons (ae_ty T.z_tuple bb_tuple) aa_nil)))) (ass_one (as_expr (ae_append (ae_var 5) (aa_cons (ae_call c C__law_bent (by decide) (by decide) (aa_cons (ae_var 1) (aa_cons (ae_bt dTupOf_ok T.z_tuple bb_tuple (aa_cons (ae_lc false (own := [("_law_act", 7)]) c (ai_tup (ae_var 4)) (show BlkOk N_law (defScope s_law) _ [("_law_act", 7)] from ⟨rfl, by decide +kernel, by decide +kernel, by decide +kernel, by decide +kernel⟩) (gw_name (i := 7) (by decide)) (fun s H C cl fp => pg_name (i := 7) c.nd rfl (by first | exact Or.inl rfl | exact Or.inr rfl)) (fun s H C cl fp c => ats_one (at_val (ae_call c C__law_is_act (by decide) (by decide) (aa_cons (ae_var 7) aa_nil)))) (fun s H C cl fp c => (ae_var 7))) aa_nil)) aa_nil))) aa_nil)))) ass_nil)
    (ass_cons (as_for c (ai_list (ae_var 5)) (ag_name 6 c.nd) (ass_one (as_if (at_not (at_val (ae_call c C__law_right (by decide) (by decide) (aa_cons (ae_var 6) aa_nil)))) (ass_one (as_ret ae_bl)) ass_nil)))
    (ass_one (as_for c (ai_tup (ae_var 3)) (ag_name 7 c.nd) (ass_cons (as_set 8 c.nd (ae_if (at_eq c (ae_ix (ae_var 7) ae_int) ae_str) (ae_ix (ae_var 7) ae_int) (ae_bt dInt_ok T.z_int bb_int (aa_cons (ae_eq c (ae_ix (ae_var 7) ae_int) ae_str) aa_nil))))
    (ass_one (as_if (at_ne c (ae_b (dRepr_ok (c.gd rfl) c.room.units) T.z_repr bb_repr (aa_cons (ae_lst false (aa_cons (ae_call c C_bytes_of (by decide) (by decide) (aa_cons (ae_var 7) aa_nil)) (aa_cons (ae_callK0 c C_bytes_of_k_action (by decide) (by decide) (ak_cons (ae_var 7) ak_nil)) aa_nil))) aa_nil)) (ae_b (dRepr_ok (c.gd rfl) c.room.units) T.z_repr bb_repr (aa_cons (ae_lst false (aa_cons (ae_var 8) (aa_cons (ae_var 8) aa_nil))) aa_nil))) (ass_one (as_ret ae_bl)) ass_nil)))))))))))
    (ass_cons (as_set 9 c.nd (ae_lst false (aa_cons (ae_tup (aa_cons ae_str (aa_cons ae_int aa_nil))) (aa_cons (ae_tup (aa_cons ae_str (aa_cons ae_int aa_nil))) (aa_cons (ae_tup (aa_cons ae_str (aa_cons ae_int (aa_cons (ae_tup aa_nil) aa_nil)))) (aa_cons (ae_tup (aa_cons ae_str (aa_cons ae_int (aa_cons (ae_tup (aa_cons (ae_tup (aa_cons ae_str aa_nil)) aa_nil)) aa_nil)))) (aa_cons (ae_tup (aa_cons ae_str (aa_cons (ae_tup aa_nil) aa_nil))) aa_nil)))))))
    (ass_one (as_ret (ae_and (ae_eq c (ae_lc false (own := [("_law_act", 7)]) c (ai_list (ae_var 9)) (show BlkOk N_law (defScope s_law) _ [("_law_act", 7)] from ⟨rfl, by decide +kernel, by decide +kernel, by decide +kernel, by decide +kernel⟩) (gw_name (i := 7) (by decide)) (fun s H C cl fp => pg_name (i := 7) c.nd rfl (by first | exact Or.inl rfl | exact Or.inr rfl)) (fun s H C cl fp c => ats_nil) (fun s H C cl fp c => (ae_call c C_is_action (by decide) (by decide) (aa_cons (ae_var 7) aa_nil)))) (ae_mul false (ae_lst false (aa_cons ae_bl aa_nil)) ae_int)) (ae_and (ae_is (ae_call c C_is_body (by decide) (by decide) (aa_cons (ae_tup aa_nil) aa_nil)) ae_bl) (ae_one (ae_is (ae_call c C_is_body (by decide) (by decide) (aa_cons (ae_lst false aa_nil) aa_nil)) ae_bl)))))))))
theorem grp_0 (T : Txt K mg) (C_inner_of : Cal false P w K mg base "inner_of" 1 1 [] (fun ds _ => ds) S_inner_of) (C_is_head : Cal false P w K mg base "is_head" 3 1 [] (fun ds _ => ds) S_is_head)  {f_is_action : Addr} {fd_is_action : FuncData} (F_is_action : L2.Fun K "is_action" "is_action" s_is_action f_is_action fd_is_action) (m_is_action : mg "is_action" = some (.ref f_is_action)) (k_is_action : PySem.W.keepIn K (.ref f_is_action) = true) {f_is_body : Addr} {fd_is_body : FuncData} (F_is_body : L2.Fun K "is_body" "is_body" s_is_body f_is_body fd_is_body) (m_is_body : mg "is_body" = some (.ref f_is_body)) (k_is_body : PySem.W.keepIn K (.ref f_is_body) = true) (B_C_is_action : Bnd K fd_is_action ["value"] 1 [] (fun ds _ => ds)) (B_C_is_body : Bnd K fd_is_body ["value"] 1 [] (fun ds _ => ds)) : ∀ n, FnG false P w K mg base (3 + n) f_is_action fd_is_action ["value"] (S_is_action n) ∧ FnG false P w K mg base (3 + n) f_is_body fd_is_body ["value"] (S_is_body n) := by
  intro n
  induction n with
  | zero => exact ⟨fng_none (no_is_action), fng_none (no_is_body)⟩
  | succ n ih =>
    obtain ⟨g_is_action, g_is_body⟩ := ih
    have C_is_action : Cal false P w K mg base "is_action" (3 + n) 1 [] (fun ds _ => ds) (S_is_action n) := ⟨⟨f_is_action, _, _, m_is_action, k_is_action, g_is_action, B_C_is_action⟩⟩
    have C_is_body : Cal false P w K mg base "is_body" (3 + n) 1 [] (fun ds _ => ds) (S_is_body n) := ⟨⟨f_is_body, _, _, m_is_body, k_is_body, g_is_body, B_C_is_body⟩⟩
    exact ⟨fng_of F_is_action sc_is_action (len_is_action (n + 1)) (mo_is_action (n + 1)) (fun cdv A outer s H E c => d_is_action T n C_inner_of C_is_body C_is_head cdv A outer s H E c) (p_is_action n), fng_of F_is_body sc_is_body (len_is_body (n + 1)) (mo_is_body (n + 1)) (fun cdv A outer s H E c => d_is_body T n C_is_action cdv A outer s H E c) (p_is_body n)⟩
theorem grp_1 (T : Txt K mg)   {f__law_is_act : Addr} {fd__law_is_act : FuncData} (F__law_is_act : L2.Fun K "_law_is_act" "_law_is_act" s__law_is_act f__law_is_act fd__law_is_act) (m__law_is_act : mg "_law_is_act" = some (.ref f__law_is_act)) (k__law_is_act : PySem.W.keepIn K (.ref f__law_is_act) = true) {f__law_are_acts : Addr} {fd__law_are_acts : FuncData} (F__law_are_acts : L2.Fun K "_law_are_acts" "_law_are_acts" s__law_are_acts f__law_are_acts fd__law_are_acts) (m__law_are_acts : mg "_law_are_acts" = some (.ref f__law_are_acts)) (k__law_are_acts : PySem.W.keepIn K (.ref f__law_are_acts) = true) (B_C__law_are_acts : Bnd K fd__law_are_acts ["_law_thing"] 1 [] (fun ds _ => ds)) (B_C__law_is_act : Bnd K fd__law_is_act ["_law_thing"] 1 [] (fun ds _ => ds)) : ∀ n, FnG false P w K mg base (0 + n) f__law_is_act fd__law_is_act ["_law_thing"] (S__law_is_act n) ∧ FnG false P w K mg base (0 + n) f__law_are_acts fd__law_are_acts ["_law_thing"] (S__law_are_acts n) := by
  intro n
  induction n with
  | zero => exact ⟨fng_none (no__law_is_act), fng_none (no__law_are_acts)⟩
  | succ n ih =>
    obtain ⟨g__law_is_act, g__law_are_acts⟩ := ih
    have C__law_are_acts : Cal false P w K mg base "_law_are_acts" (0 + n) 1 [] (fun ds _ => ds) (S__law_are_acts n) := ⟨⟨f__law_are_acts, _, _, m__law_are_acts, k__law_are_acts, g__law_are_acts, B_C__law_are_acts⟩⟩
    have C__law_is_act : Cal false P w K mg base "_law_is_act" (0 + n) 1 [] (fun ds _ => ds) (S__law_is_act n) := ⟨⟨f__law_is_act, _, _, m__law_is_act, k__law_is_act, g__law_is_act, B_C__law_is_act⟩⟩
    exact ⟨fng_of F__law_is_act sc__law_is_act (len__law_is_act (n + 1)) (mo__law_is_act (n + 1)) (fun cdv A outer s H E c => d__law_is_act T n C__law_are_acts cdv A outer s H E c) (p__law_is_act n), fng_of F__law_are_acts sc__law_are_acts (len__law_are_acts (n + 1)) (mo__law_are_acts (n + 1)) (fun cdv A outer s H E c => d__law_are_acts T n C__law_is_act cdv A outer s H E c) (p__law_are_acts n)⟩
theorem grp_2 (T : Txt K mg) (C__law_draw : Cal false P w K mg base "_law_draw" 1 2 [] (fun ds _ => ds) S__law_draw)  {f__law_deeds : Addr} {fd__law_deeds : FuncData} (F__law_deeds : L2.Fun K "_law_deeds" "_law_deeds" s__law_deeds f__law_deeds fd__law_deeds) (m__law_deeds : mg "_law_deeds" = some (.ref f__law_deeds)) (k__law_deeds : PySem.W.keepIn K (.ref f__law_deeds) = true) (B_C__law_deeds : Bnd K fd__law_deeds ["_law_pen_here", "_law_deep", "_law_words_here", "_law_most"] 4 [] (fun ds _ => ds)) : ∀ n, FnG false P w K mg base (1 + n) f__law_deeds fd__law_deeds ["_law_pen_here", "_law_deep", "_law_words_here", "_law_most"] (S__law_deeds n) := by
  intro n
  induction n with
  | zero => exact fng_none (no__law_deeds)
  | succ n ih =>
    have g__law_deeds := ih
    have C__law_deeds : Cal false P w K mg base "_law_deeds" (1 + n) 4 [] (fun ds _ => ds) (S__law_deeds n) := ⟨⟨f__law_deeds, _, _, m__law_deeds, k__law_deeds, g__law_deeds, B_C__law_deeds⟩⟩
    exact fng_of F__law_deeds sc__law_deeds (len__law_deeds (n + 1)) (mo__law_deeds (n + 1)) (fun cdv A outer s H E c => d__law_deeds T n C__law_deeds C__law_draw cdv A outer s H E c) (p__law_deeds n)
theorem grp_3 (T : Txt K mg) (C__law_draw : Cal false P w K mg base "_law_draw" 1 2 [] (fun ds _ => ds) S__law_draw) (C__law_odd : Cal false P w K mg base "_law_odd" 2 1 [] (fun ds _ => ds) S__law_odd)  {f__law_bent : Addr} {fd__law_bent : FuncData} (F__law_bent : L2.Fun K "_law_bent" "_law_bent" s__law_bent f__law_bent fd__law_bent) (m__law_bent : mg "_law_bent" = some (.ref f__law_bent)) (k__law_bent : PySem.W.keepIn K (.ref f__law_bent) = true) (B_C__law_bent : Bnd K fd__law_bent ["_law_pen_here", "_law_deeds_here"] 2 [] (fun ds _ => ds)) : ∀ n, FnG false P w K mg base (2 + n) f__law_bent fd__law_bent ["_law_pen_here", "_law_deeds_here"] (S__law_bent n) := by
  intro n
  induction n with
  | zero => exact fng_none (no__law_bent)
  | succ n ih =>
    have g__law_bent := ih
    have C__law_bent : Cal false P w K mg base "_law_bent" (2 + n) 2 [] (fun ds _ => ds) (S__law_bent n) := ⟨⟨f__law_bent, _, _, m__law_bent, k__law_bent, g__law_bent, B_C__law_bent⟩⟩
    exact fng_of F__law_bent sc__law_bent (len__law_bent (n + 1)) (mo__law_bent (n + 1)) (fun cdv A outer s H E c => d__law_bent T n C__law_bent C__law_draw C__law_odd cdv A outer s H E c) (p__law_bent n)
end
/-! ### what the top has written, and the law's head (printed by gen.py) -/
theorem all_mk {l : PySem.W.OpenLaw} {w : World} {K : PySem.W.Frag} {h : Heap} {mg : Str → Option Value} {fa : Addr} (X : K.In h) (G : h.Ns mainGlobals mg) (hfa : mg "law" = some (.ref fa))
    {f0 : Addr} {od0 an0 : Option Addr} {sl0 : Array (Option Value)} {oc0 kV0 dc0 pm0 cd0 ct0 : Value}
    {f1 : Addr} {od1 an1 : Option Addr} {sl1 : Array (Option Value)} {oc1 kV1 dc1 pm1 cd1 ct1 : Value}
    {f2 : Addr} {od2 an2 : Option Addr} {sl2 : Array (Option Value)} {oc2 kV2 dc2 pm2 cd2 ct2 : Value}
    {f3 : Addr} {od3 an3 : Option Addr} {sl3 : Array (Option Value)} {oc3 kV3 dc3 pm3 cd3 ct3 : Value}
    {f4 : Addr} {od4 an4 : Option Addr} {sl4 : Array (Option Value)} {oc4 kV4 dc4 pm4 cd4 ct4 : Value}
    {f5 : Addr} {od5 an5 : Option Addr} {sl5 : Array (Option Value)} {oc5 kV5 dc5 pm5 cd5 ct5 : Value}
    {f6 : Addr} {od6 an6 : Option Addr} {sl6 : Array (Option Value)} {oc6 kV6 dc6 pm6 cd6 ct6 : Value}
    {f7 : Addr} {od7 an7 : Option Addr} {sl7 : Array (Option Value)} {oc7 kV7 dc7 pm7 cd7 ct7 : Value}
    {f8 : Addr} {od8 an8 : Option Addr} {sl8 : Array (Option Value)} {oc8 kV8 dc8 pm8 cd8 ct8 : Value}
    {f9 : Addr} {od9 an9 : Option Addr} {sl9 : Array (Option Value)} {oc9 kV9 dc9 pm9 cd9 ct9 : Value}
    {f10 : Addr} {od10 an10 : Option Addr} {sl10 : Array (Option Value)} {oc10 kV10 dc10 pm10 cd10 ct10 : Value}
    {f11 : Addr} {od11 an11 : Option Addr} {sl11 : Array (Option Value)} {oc11 kV11 dc11 pm11 cd11 ct11 : Value}
    {f12 : Addr} {od12 an12 : Option Addr} {sl12 : Array (Option Value)} {oc12 kV12 dc12 pm12 cd12 ct12 : Value}
    {f13 : Addr} {od13 an13 : Option Addr} {sl13 : Array (Option Value)} {oc13 kV13 dc13 pm13 cd13 ct13 : Value}
    {f14 : Addr} {od14 an14 : Option Addr} {sl14 : Array (Option Value)} {oc14 kV14 dc14 pm14 cd14 ct14 : Value}
    {f15 : Addr} {od15 an15 : Option Addr} {sl15 : Array (Option Value)} {oc15 kV15 dc15 pm15 cd15 ct15 : Value}
    {f16 : Addr} {od16 an16 : Option Addr} {sl16 : Array (Option Value)} {oc16 kV16 dc16 pm16 cd16 ct16 : Value}
    (a0 : PySem.W.nsIn K mainGlobals "is_integer" = some (some (.ref f0))) (l0 : K.lookup f0 = some ⟨oc0, od0, .func (PySem.W.fnOf "is_integer" "is_integer" (defArgs s_is_integer) (defBody s_is_integer) (defScope s_is_integer) .none kV0 dc0 pm0 an0 cd0 ct0), sl0⟩) (c0 : PySem.W.codeIn K cd0 "is_integer" = true) (k0 : PySem.W.keepIn K (.ref f0) = true)
    (a1 : PySem.W.nsIn K mainGlobals "is_between" = some (some (.ref f1))) (l1 : K.lookup f1 = some ⟨oc1, od1, .func (PySem.W.fnOf "is_between" "is_between" (defArgs s_is_between) (defBody s_is_between) (defScope s_is_between) .none kV1 dc1 pm1 an1 cd1 ct1), sl1⟩) (c1 : PySem.W.codeIn K cd1 "is_between" = true) (k1 : PySem.W.keepIn K (.ref f1) = true)
    (a2 : PySem.W.nsIn K mainGlobals "is_head" = some (some (.ref f2))) (l2 : K.lookup f2 = some ⟨oc2, od2, .func (PySem.W.fnOf "is_head" "is_head" (defArgs s_is_head) (defBody s_is_head) (defScope s_is_head) .none kV2 dc2 pm2 an2 cd2 ct2), sl2⟩) (c2 : PySem.W.codeIn K cd2 "is_head" = true) (k2 : PySem.W.keepIn K (.ref f2) = true)
    (a3 : PySem.W.nsIn K mainGlobals "inner_of" = some (some (.ref f3))) (l3 : K.lookup f3 = some ⟨oc3, od3, .func (PySem.W.fnOf "inner_of" "inner_of" (defArgs s_inner_of) (defBody s_inner_of) (defScope s_inner_of) .none kV3 dc3 pm3 an3 cd3 ct3), sl3⟩) (c3 : PySem.W.codeIn K cd3 "inner_of" = true) (k3 : PySem.W.keepIn K (.ref f3) = true)
    (a4 : PySem.W.nsIn K mainGlobals "is_action" = some (some (.ref f4))) (l4 : K.lookup f4 = some ⟨oc4, od4, .func (PySem.W.fnOf "is_action" "is_action" (defArgs s_is_action) (defBody s_is_action) (defScope s_is_action) .none kV4 dc4 pm4 an4 cd4 ct4), sl4⟩) (c4 : PySem.W.codeIn K cd4 "is_action" = true) (k4 : PySem.W.keepIn K (.ref f4) = true)
    (a5 : PySem.W.nsIn K mainGlobals "is_body" = some (some (.ref f5))) (l5 : K.lookup f5 = some ⟨oc5, od5, .func (PySem.W.fnOf "is_body" "is_body" (defArgs s_is_body) (defBody s_is_body) (defScope s_is_body) .none kV5 dc5 pm5 an5 cd5 ct5), sl5⟩) (c5 : PySem.W.codeIn K cd5 "is_body" = true) (k5 : PySem.W.keepIn K (.ref f5) = true)
    (a6 : PySem.W.nsIn K mainGlobals "bytes_of" = some (some (.ref f6))) (l6 : K.lookup f6 = some ⟨oc6, od6, .func (PySem.W.fnOf "bytes_of" "bytes_of" (defArgs s_bytes_of) (defBody s_bytes_of) (defScope s_bytes_of) .none kV6 dc6 pm6 an6 cd6 ct6), sl6⟩) (c6 : PySem.W.codeIn K cd6 "bytes_of" = true) (k6 : PySem.W.keepIn K (.ref f6) = true)
    (a7 : PySem.W.nsIn K mainGlobals "_law_pen" = some (some (.ref f7))) (l7 : K.lookup f7 = some ⟨oc7, od7, .func (PySem.W.fnOf "_law_pen" "_law_pen" (defArgs s__law_pen) (defBody s__law_pen) (defScope s__law_pen) .none kV7 dc7 pm7 an7 cd7 ct7), sl7⟩) (c7 : PySem.W.codeIn K cd7 "_law_pen" = true) (k7 : PySem.W.keepIn K (.ref f7) = true)
    (a8 : PySem.W.nsIn K mainGlobals "_law_draw" = some (some (.ref f8))) (l8 : K.lookup f8 = some ⟨oc8, od8, .func (PySem.W.fnOf "_law_draw" "_law_draw" (defArgs s__law_draw) (defBody s__law_draw) (defScope s__law_draw) .none kV8 dc8 pm8 an8 cd8 ct8), sl8⟩) (c8 : PySem.W.codeIn K cd8 "_law_draw" = true) (k8 : PySem.W.keepIn K (.ref f8) = true)
    (a9 : PySem.W.nsIn K mainGlobals "_law_deeds" = some (some (.ref f9))) (l9 : K.lookup f9 = some ⟨oc9, od9, .func (PySem.W.fnOf "_law_deeds" "_law_deeds" (defArgs s__law_deeds) (defBody s__law_deeds) (defScope s__law_deeds) .none kV9 dc9 pm9 an9 cd9 ct9), sl9⟩) (c9 : PySem.W.codeIn K cd9 "_law_deeds" = true) (k9 : PySem.W.keepIn K (.ref f9) = true)
    (a10 : PySem.W.nsIn K mainGlobals "_law_words" = some (some (.ref f10))) (l10 : K.lookup f10 = some ⟨oc10, od10, .func (PySem.W.fnOf "_law_words" "_law_words" (defArgs s__law_words) (defBody s__law_words) (defScope s__law_words) .none kV10 dc10 pm10 an10 cd10 ct10), sl10⟩) (c10 : PySem.W.codeIn K cd10 "_law_words" = true) (k10 : PySem.W.keepIn K (.ref f10) = true)
    (a11 : PySem.W.nsIn K mainGlobals "_law_is_act" = some (some (.ref f11))) (l11 : K.lookup f11 = some ⟨oc11, od11, .func (PySem.W.fnOf "_law_is_act" "_law_is_act" (defArgs s__law_is_act) (defBody s__law_is_act) (defScope s__law_is_act) .none kV11 dc11 pm11 an11 cd11 ct11), sl11⟩) (c11 : PySem.W.codeIn K cd11 "_law_is_act" = true) (k11 : PySem.W.keepIn K (.ref f11) = true)
    (a12 : PySem.W.nsIn K mainGlobals "_law_are_acts" = some (some (.ref f12))) (l12 : K.lookup f12 = some ⟨oc12, od12, .func (PySem.W.fnOf "_law_are_acts" "_law_are_acts" (defArgs s__law_are_acts) (defBody s__law_are_acts) (defScope s__law_are_acts) .none kV12 dc12 pm12 an12 cd12 ct12), sl12⟩) (c12 : PySem.W.codeIn K cd12 "_law_are_acts" = true) (k12 : PySem.W.keepIn K (.ref f12) = true)
    (a13 : PySem.W.nsIn K mainGlobals "_law_odd" = some (some (.ref f13))) (l13 : K.lookup f13 = some ⟨oc13, od13, .func (PySem.W.fnOf "_law_odd" "_law_odd" (defArgs s__law_odd) (defBody s__law_odd) (defScope s__law_odd) .none kV13 dc13 pm13 an13 cd13 ct13), sl13⟩) (c13 : PySem.W.codeIn K cd13 "_law_odd" = true) (k13 : PySem.W.keepIn K (.ref f13) = true)
    (a14 : PySem.W.nsIn K mainGlobals "_law_bent" = some (some (.ref f14))) (l14 : K.lookup f14 = some ⟨oc14, od14, .func (PySem.W.fnOf "_law_bent" "_law_bent" (defArgs s__law_bent) (defBody s__law_bent) (defScope s__law_bent) .none kV14 dc14 pm14 an14 cd14 ct14), sl14⟩) (c14 : PySem.W.codeIn K cd14 "_law_bent" = true) (k14 : PySem.W.keepIn K (.ref f14) = true)
    (a15 : PySem.W.nsIn K mainGlobals "_law_right" = some (some (.ref f15))) (l15 : K.lookup f15 = some ⟨oc15, od15, .func (PySem.W.fnOf "_law_right" "_law_right" (defArgs s__law_right) (defBody s__law_right) (defScope s__law_right) .none kV15 dc15 pm15 an15 cd15 ct15), sl15⟩) (c15 : PySem.W.codeIn K cd15 "_law_right" = true) (k15 : PySem.W.keepIn K (.ref f15) = true)
    (a16 : PySem.W.nsIn K mainGlobals "law" = some (some (.ref f16))) (l16 : K.lookup f16 = some ⟨oc16, od16, .func (PySem.W.fnOf "law" "law" (defArgs s_law) (defBody s_law) (defScope s_law) .none kV16 dc16 pm16 an16 cd16 ct16), sl16⟩) (c16 : PySem.W.codeIn K cd16 "law" = true) (k16 : PySem.W.keepIn K (.ref f16) = true)
    (z0 : PySem.W.nsIn K mainGlobals "abs" = some none)
    (z1 : PySem.W.nsIn K mainGlobals "all" = some none)
    (z2 : PySem.W.nsIn K mainGlobals "bool" = some none)
    (z3 : PySem.W.nsIn K mainGlobals "int" = some none)
    (z4 : PySem.W.nsIn K mainGlobals "isinstance" = some none)
    (z5 : PySem.W.nsIn K mainGlobals "len" = some none)
    (z6 : PySem.W.nsIn K mainGlobals "list" = some none)
    (z7 : PySem.W.nsIn K mainGlobals "range" = some none)
    (z8 : PySem.W.nsIn K mainGlobals "repr" = some none)
    (z9 : PySem.W.nsIn K mainGlobals "str" = some none)
    (z10 : PySem.W.nsIn K mainGlobals "tuple" = some none)
    {t0 : Addr} {td0 : Option Addr} {ti0 : Array Value} {tm0 : Nat} {ts0 : Array (Option Value)} (g0 : PySem.W.nsIn K mainGlobals "BARE" = some (some (Value.ref t0))) (gt0 : K.lookup t0 = some ⟨.type "tuple", td0, .seq ti0 tm0, ts0⟩) (gz0 : ti0.size ≤ 1000) (gs0 : strsOf ti0.toList = some [("line" : Str), ("flush" : Str), ("drop" : Str), ("both" : Str), ("exit" : Str), ("quit" : Str)])
    {t1 : Tok} (g1 : PySem.W.nsIn K mainGlobals "FORK" = some (some (Value.str "fork" t1)))
    {t2 : Tok} (g2 : PySem.W.nsIn K mainGlobals "LINE" = some (some (Value.str "line" t2)))
    {t3 : Tok} (g3 : PySem.W.nsIn K mainGlobals "MOST_BYTES" = some (some (Value.int 2000 t3)))
    {t4 : Tok} (g4 : PySem.W.nsIn K mainGlobals "MOST_TURNS" = some (some (Value.int 300 t4)))
    {t5 : Tok} (g5 : PySem.W.nsIn K mainGlobals "REPEAT" = some (some (Value.str "repeat" t5)))
    {t6 : Tok} (g6 : PySem.W.nsIn K mainGlobals "WRITE" = some (some (Value.str "write" t6)))
    : ∃ fd : FuncData, (∀ (s : Shared) (v : Value), BindsTo s fd ⟨[v], []⟩ [("_law_script", v)]) ∧ ∀ base : Heap, K.In base → base.Ns mainGlobals mg → FnG true l.prog w K mg base 25 fa fd ["_law_script"] S_law := by
  have e := hfa.symm.trans (PySem.W.mg_of X G a16)
  cases e
  have T : Txt K mg := ⟨PySem.W.mg_none_of X G z0, PySem.W.mg_none_of X G z1, PySem.W.mg_none_of X G z2, PySem.W.mg_none_of X G z3, PySem.W.mg_none_of X G z4, PySem.W.mg_none_of X G z5, PySem.W.mg_none_of X G z6, PySem.W.mg_none_of X G z7, PySem.W.mg_none_of X G z8, PySem.W.mg_none_of X G z9, PySem.W.mg_none_of X G z10, cst_strs (PySem.W.mg_of X G g0) gt0 gz0 gs0, cst_str (PySem.W.mg_of X G g1), cst_str (PySem.W.mg_of X G g2), cst_int (PySem.W.mg_of X G g3), cst_int (PySem.W.mg_of X G g4), cst_str (PySem.W.mg_of X G g5), cst_str (PySem.W.mg_of X G g6)⟩
  have F0 := fun_mk (st := s_is_integer) l0 c0 k0
  have F1 := fun_mk (st := s_is_between) l1 c1 k1
  have F2 := fun_mk (st := s_is_head) l2 c2 k2
  have F3 := fun_mk (st := s_inner_of) l3 c3 k3
  have F4 := fun_mk (st := s_is_action) l4 c4 k4
  have F5 := fun_mk (st := s_is_body) l5 c5 k5
  have F6 := fun_mk (st := s_bytes_of) l6 c6 k6
  have F7 := fun_mk (st := s__law_pen) l7 c7 k7
  have F8 := fun_mk (st := s__law_draw) l8 c8 k8
  have F9 := fun_mk (st := s__law_deeds) l9 c9 k9
  have F10 := fun_mk (st := s__law_words) l10 c10 k10
  have F11 := fun_mk (st := s__law_is_act) l11 c11 k11
  have F12 := fun_mk (st := s__law_are_acts) l12 c12 k12
  have F13 := fun_mk (st := s__law_odd) l13 c13 k13
  have F14 := fun_mk (st := s__law_bent) l14 c14 k14
  have F15 := fun_mk (st := s__law_right) l15 c15 k15
  have F16 := fun_mk (st := s_law) l16 c16 k16
  refine ⟨PySem.W.fnOf "law" "law" (defArgs s_law) (defBody s_law) (defScope s_law) .none kV16 dc16 pm16 an16 cd16 ct16, fun s v => .of_eq rfl, fun base _ _ => ?_⟩
  have G0 : FnG false l.prog w K mg base 1 f0 _ ["value"] S_is_integer := fng_of F0 sc_is_integer len_is_integer mo_is_integer (fun cdv A outer s H E c => d_is_integer T  cdv A outer s H E c) p_is_integer
  have C_is_integer : Cal false l.prog w K mg base "is_integer" 1 1 [] (fun ds _ => ds) S_is_integer := ⟨⟨f0, _, _, PySem.W.mg_of X G a0, k0, G0, Bnd.plain fun us hl => match us, hl with | [_], _ => rfl⟩⟩
  have G3 : FnG false l.prog w K mg base 1 f3 _ ["action"] S_inner_of := fng_of F3 sc_inner_of len_inner_of mo_inner_of (fun cdv A outer s H E c => d_inner_of T  cdv A outer s H E c) p_inner_of
  have C_inner_of : Cal false l.prog w K mg base "inner_of" 1 1 [] (fun ds _ => ds) S_inner_of := ⟨⟨f3, _, _, PySem.W.mg_of X G a3, k3, G3, Bnd.plain fun us hl => match us, hl with | [_], _ => rfl⟩⟩
  have G6 : FnG false l.prog w K mg base 1 f6 _ ["action"] S_bytes_of := fng_of F6 sc_bytes_of len_bytes_of mo_bytes_of (fun cdv A outer s H E c => d_bytes_of T  cdv A outer s H E c) p_bytes_of
  have C_bytes_of_k_action : Cal false l.prog w K mg base "bytes_of" 1 0 ["action"] (pickD [0]) S_bytes_of := ⟨⟨f6, _, _, PySem.W.mg_of X G a6, k6, G6, Bnd.pick [0] (by decide) fun us ws h1 h2 => match us, ws, h1, h2 with | [], [_], _, _ => rfl⟩⟩
  have C_bytes_of : Cal false l.prog w K mg base "bytes_of" 1 1 [] (fun ds _ => ds) S_bytes_of := ⟨⟨f6, _, _, PySem.W.mg_of X G a6, k6, G6, Bnd.plain fun us hl => match us, hl with | [_], _ => rfl⟩⟩
  have G7 : FnG false l.prog w K mg base 1 f7 _ ["_law_script"] S__law_pen := fng_of F7 sc__law_pen len__law_pen mo__law_pen (fun cdv A outer s H E c => d__law_pen T  cdv A outer s H E c) p__law_pen
  have C__law_pen : Cal false l.prog w K mg base "_law_pen" 1 1 [] (fun ds _ => ds) S__law_pen := ⟨⟨f7, _, _, PySem.W.mg_of X G a7, k7, G7, Bnd.plain fun us hl => match us, hl with | [_], _ => rfl⟩⟩
  have G8 : FnG false l.prog w K mg base 1 f8 _ ["_law_pen_here", "_law_bound"] S__law_draw := fng_of F8 sc__law_draw len__law_draw mo__law_draw (fun cdv A outer s H E c => d__law_draw T  cdv A outer s H E c) p__law_draw
  have C__law_draw : Cal false l.prog w K mg base "_law_draw" 1 2 [] (fun ds _ => ds) S__law_draw := ⟨⟨f8, _, _, PySem.W.mg_of X G a8, k8, G8, Bnd.plain fun us hl => match us, hl with | [_, _], _ => rfl⟩⟩
  have G1 : FnG false l.prog w K mg base 2 f1 _ ["value", "least", "most"] S_is_between := fng_of F1 sc_is_between len_is_between mo_is_between (fun cdv A outer s H E c => d_is_between T C_is_integer cdv A outer s H E c) p_is_between
  have C_is_between : Cal false l.prog w K mg base "is_between" 2 3 [] (fun ds _ => ds) S_is_between := ⟨⟨f1, _, _, PySem.W.mg_of X G a1, k1, G1, Bnd.plain fun us hl => match us, hl with | [_, _, _], _ => rfl⟩⟩
  have G10 : FnG false l.prog w K mg base 2 f10 _ ["_law_pen_here"] S__law_words := fng_of F10 sc__law_words len__law_words mo__law_words (fun cdv A outer s H E c => d__law_words T C__law_draw cdv A outer s H E c) p__law_words
  have C__law_words : Cal false l.prog w K mg base "_law_words" 2 1 [] (fun ds _ => ds) S__law_words := ⟨⟨f10, _, _, PySem.W.mg_of X G a10, k10, G10, Bnd.plain fun us hl => match us, hl with | [_], _ => rfl⟩⟩
  have G13 : FnG false l.prog w K mg base 2 f13 _ ["_law_pen_here"] S__law_odd := fng_of F13 sc__law_odd len__law_odd mo__law_odd (fun cdv A outer s H E c => d__law_odd T C__law_draw cdv A outer s H E c) p__law_odd
  have C__law_odd : Cal false l.prog w K mg base "_law_odd" 2 1 [] (fun ds _ => ds) S__law_odd := ⟨⟨f13, _, _, PySem.W.mg_of X G a13, k13, G13, Bnd.plain fun us hl => match us, hl with | [_], _ => rfl⟩⟩
  have G2 : FnG false l.prog w K mg base 3 f2 _ ["value"] S_is_head := fng_of F2 sc_is_head len_is_head mo_is_head (fun cdv A outer s H E c => d_is_head T C_is_between cdv A outer s H E c) p_is_head
  have C_is_head : Cal false l.prog w K mg base "is_head" 3 1 [] (fun ds _ => ds) S_is_head := ⟨⟨f2, _, _, PySem.W.mg_of X G a2, k2, G2, Bnd.plain fun us hl => match us, hl with | [_], _ => rfl⟩⟩
  have GR1 := grp_1 (P := l.prog) (w := w) (base := base) T F11 (PySem.W.mg_of X G a11) k11 F12 (PySem.W.mg_of X G a12) k12 (Bnd.plain fun us hl => match us, hl with | [_], _ => rfl) (Bnd.plain fun us hl => match us, hl with | [_], _ => rfl)
  have G11 := (GR1 20).1
  have G12 := (GR1 20).2
  have C__law_is_act : Cal false l.prog w K mg base "_law_is_act" 20 1 [] (fun ds _ => ds) (S__law_is_act 20) := ⟨⟨f11, _, _, PySem.W.mg_of X G a11, k11, G11, Bnd.plain fun us hl => match us, hl with | [_], _ => rfl⟩⟩
  have C__law_are_acts : Cal false l.prog w K mg base "_law_are_acts" 20 1 [] (fun ds _ => ds) (S__law_are_acts 20) := ⟨⟨f12, _, _, PySem.W.mg_of X G a12, k12, G12, Bnd.plain fun us hl => match us, hl with | [_], _ => rfl⟩⟩
  have GR2 := grp_2 (P := l.prog) (w := w) (base := base) T C__law_draw F9 (PySem.W.mg_of X G a9) k9 (Bnd.plain fun us hl => match us, hl with | [_, _, _, _], _ => rfl)
  have G9 := (GR2 20)
  have C__law_deeds : Cal false l.prog w K mg base "_law_deeds" 21 4 [] (fun ds _ => ds) (S__law_deeds 20) := ⟨⟨f9, _, _, PySem.W.mg_of X G a9, k9, G9, Bnd.plain fun us hl => match us, hl with | [_, _, _, _], _ => rfl⟩⟩
  have GR3 := grp_3 (P := l.prog) (w := w) (base := base) T C__law_draw C__law_odd F14 (PySem.W.mg_of X G a14) k14 (Bnd.plain fun us hl => match us, hl with | [_, _], _ => rfl)
  have G14 := (GR3 20)
  have C__law_bent : Cal false l.prog w K mg base "_law_bent" 22 2 [] (fun ds _ => ds) (S__law_bent 20) := ⟨⟨f14, _, _, PySem.W.mg_of X G a14, k14, G14, Bnd.plain fun us hl => match us, hl with | [_, _], _ => rfl⟩⟩
  have GR0 := grp_0 (P := l.prog) (w := w) (base := base) T C_inner_of C_is_head F4 (PySem.W.mg_of X G a4) k4 F5 (PySem.W.mg_of X G a5) k5 (Bnd.plain fun us hl => match us, hl with | [_], _ => rfl) (Bnd.plain fun us hl => match us, hl with | [_], _ => rfl)
  have G4 := (GR0 20).1
  have G5 := (GR0 20).2
  have C_is_action_k_value : Cal false l.prog w K mg base "is_action" 23 0 ["value"] (pickD [0]) (S_is_action 20) := ⟨⟨f4, _, _, PySem.W.mg_of X G a4, k4, G4, Bnd.pick [0] (by decide) fun us ws h1 h2 => match us, ws, h1, h2 with | [], [_], _, _ => rfl⟩⟩
  have C_is_action : Cal false l.prog w K mg base "is_action" 23 1 [] (fun ds _ => ds) (S_is_action 20) := ⟨⟨f4, _, _, PySem.W.mg_of X G a4, k4, G4, Bnd.plain fun us hl => match us, hl with | [_], _ => rfl⟩⟩
  have C_is_body_k_value : Cal false l.prog w K mg base "is_body" 23 0 ["value"] (pickD [0]) (S_is_body 20) := ⟨⟨f5, _, _, PySem.W.mg_of X G a5, k5, G5, Bnd.pick [0] (by decide) fun us ws h1 h2 => match us, ws, h1, h2 with | [], [_], _, _ => rfl⟩⟩
  have C_is_body : Cal false l.prog w K mg base "is_body" 23 1 [] (fun ds _ => ds) (S_is_body 20) := ⟨⟨f5, _, _, PySem.W.mg_of X G a5, k5, G5, Bnd.plain fun us hl => match us, hl with | [_], _ => rfl⟩⟩
  have G15 : FnG true l.prog w K mg base 24 f15 _ ["_law_thing"] S__law_right := fng_of F15 sc__law_right len__law_right mo__law_right (fun cdv A outer s H E c => d__law_right T C__law_are_acts C__law_is_act C_is_action_k_value C_is_action C_is_body_k_value C_is_body cdv A outer s H E c) p__law_right
  have C__law_right : Cal true l.prog w K mg base "_law_right" 24 1 [] (fun ds _ => ds) S__law_right := ⟨⟨f15, _, _, PySem.W.mg_of X G a15, k15, G15, Bnd.plain fun us hl => match us, hl with | [_], _ => rfl⟩⟩
  have G16 : FnG true l.prog w K mg base 25 fa _ ["_law_script"] S_law := fng_of F16 sc_law len_law mo_law (fun cdv A outer s H E c => d_law T C__law_bent C__law_deeds C__law_is_act C__law_odd C__law_pen C__law_right C__law_words C_bytes_of_k_action C_bytes_of C_is_action C_is_body cdv A outer s H E c) p_law
  exact G16
end K02
open PySem PySem.W PyProof.Rows
set_option maxRecDepth 100000 in
set_option maxHeartbeats 0 in
theorem PySem.Challenge.cw_forkecho_k02_actions_and_bodies_holds : PySem.Challenge.rw_forkecho_k02_actions_and_bodies.Holds := by
  w_on; o_law; k_head; (case hw => w_witness2)
  k_fill
  refine DL.dl_walk (gz := true) (l := PySem.Challenge.rw_forkecho_k02_actions_and_bodies) (n := 63) (k := 25) (x := "_law_script") (S := K02.S_law) rfl (by decide) rfl ⟨rfl, by decide, by decide⟩ (fun w h Y => PySem.W.kIn_of Y) ?F ?S
  case S => exact K02.law_at
  case F =>
    intro w mg fa h KX G hmg
    refine' K02.all_mk KX G hmg ?ya0 ?yl0 ?yc0 ?yk0 ?ya1 ?yl1 ?yc1 ?yk1 ?ya2 ?yl2 ?yc2 ?yk2 ?ya3 ?yl3 ?yc3 ?yk3 ?ya4 ?yl4 ?yc4 ?yk4 ?ya5 ?yl5 ?yc5 ?yk5 ?ya6 ?yl6 ?yc6 ?yk6 ?ya7 ?yl7 ?yc7 ?yk7 ?ya8 ?yl8 ?yc8 ?yk8 ?ya9 ?yl9 ?yc9 ?yk9 ?ya10 ?yl10 ?yc10 ?yk10 ?ya11 ?yl11 ?yc11 ?yk11 ?ya12 ?yl12 ?yc12 ?yk12 ?ya13 ?yl13 ?yc13 ?yk13 ?ya14 ?yl14 ?yc14 ?yk14 ?ya15 ?yl15 ?yc15 ?yk15 ?ya16 ?yl16 ?yc16 ?yk16 ?yz0 ?yz1 ?yz2 ?yz3 ?yz4 ?yz5 ?yz6 ?yz7 ?yz8 ?yz9 ?yz10 ?yg0 ?ygt0 ?ygz0 ?ygs0 ?yg1 ?yg2 ?yg3 ?yg4 ?yg5 ?yg6
    (case ya0 => k_is)
    (case yl0 => k_is)
    (case yc0 => k_is)
    (case yk0 => k_is)
    (case ya1 => k_is)
    (case yl1 => k_is)
    (case yc1 => k_is)
    (case yk1 => k_is)
    (case ya2 => k_is)
    (case yl2 => k_is)
    (case yc2 => k_is)
    (case yk2 => k_is)
    (case ya3 => k_is)
    (case yl3 => k_is)
    (case yc3 => k_is)
    (case yk3 => k_is)
    (case ya4 => k_is)
    (case yl4 => k_is)
    (case yc4 => k_is)
    (case yk4 => k_is)
    (case ya5 => k_is)
    (case yl5 => k_is)
    (case yc5 => k_is)
    (case yk5 => k_is)
    (case ya6 => k_is)
    (case yl6 => k_is)
    (case yc6 => k_is)
    (case yk6 => k_is)
    (case ya7 => k_is)
    (case yl7 => k_is)
    (case yc7 => k_is)
    (case yk7 => k_is)
    (case ya8 => k_is)
    (case yl8 => k_is)
    (case yc8 => k_is)
    (case yk8 => k_is)
    (case ya9 => k_is)
    (case yl9 => k_is)
    (case yc9 => k_is)
    (case yk9 => k_is)
    (case ya10 => k_is)
    (case yl10 => k_is)
    (case yc10 => k_is)
    (case yk10 => k_is)
    (case ya11 => k_is)
    (case yl11 => k_is)
    (case yc11 => k_is)
    (case yk11 => k_is)
    (case ya12 => k_is)
    (case yl12 => k_is)
    (case yc12 => k_is)
    (case yk12 => k_is)
    (case ya13 => k_is)
    (case yl13 => k_is)
    (case yc13 => k_is)
    (case yk13 => k_is)
    (case ya14 => k_is)
    (case yl14 => k_is)
    (case yc14 => k_is)
    (case yk14 => k_is)
    (case ya15 => k_is)
    (case yl15 => k_is)
    (case yc15 => k_is)
    (case yk15 => k_is)
    (case ya16 => k_is)
    (case yl16 => k_is)
    (case yc16 => k_is)
    (case yk16 => k_is)
    (case yz0 => k_is)
    (case yz1 => k_is)
    (case yz2 => k_is)
    (case yz3 => k_is)
    (case yz4 => k_is)
    (case yz5 => k_is)
    (case yz6 => k_is)
    (case yz7 => k_is)
    (case yz8 => k_is)
    (case yz9 => k_is)
    (case yz10 => k_is)
    (case yg0 => k_is)
    (case ygt0 => k_is)
    (case ygz0 => decide)
    (case ygs0 => rfl)
    (case yg1 => k_is)
    (case yg2 => k_is)
    (case yg3 => k_is)
    (case yg4 => k_is)
    (case yg5 => k_is)
    (case yg6 => k_is)
#print axioms PySem.Challenge.cw_forkecho_k02_actions_and_bodies_holds
